import PyProof.Rows.All
import Wide.All
import OpenK.AllK
import Wide.FinOn
import HandS.ForMost
import HandS.Defaults
import HandS.IsInst
import HandS.Star
import HandS.Deep
import HandS.TupAny
import HandS.Zip
import HandS.Style
import KE.GoesEnum
import HandS.Iter
import KE.KRevSl
import PyProof.Rows.SumAny
import HandS.More
import HandS.SortInts
import HandS.HeadHook4
import HandS.Small
import KE.KStateDown
import HandS.HeadEnd
import HandS.Head2
import PySem.Challenge.RW_rulevoices_k11_across_mirrors
section
set_option Elab.async false
set_option linter.all false
set_option maxRecDepth 100000
set_option maxHeartbeats 4000000
namespace Dl
open PySem PySem.Spec PyProof.Rows L2

/-! data: what a value stands for -/
inductive D where
  | non | bl (b : Bool) | int (i : Int) | str (x : Str) | tup (xs : List D) | ktp (xs : List D) | lst (xs : List D)
  | dS (kvs : List (Str × D)) | dT (kvs : List (List Str × D)) | sl (ns : List Int) | rw | fn (v : V)

/-- the draws' list: place, mix, rest; the script -/
structure Tau where
  a : Int
  b : Int
  c : Int
  ns : List Int

/-- knowledge: what of the heap stays -/
def Sub (I H : Hp) : Prop := ∀ a o, I a = some o → H a = some o ∨ ((∃ kvs, o = HO.dK kvs) ∧ ∃ ob, H a = some (.frz ob o))
def Kp (c : Option Addr) (H H' : Hp) : Prop := ∀ a o, c ≠ some a → H a = some o → H' a = some o

/-- a tuple's object, nothing beside it -/
def TupO (o : Obj) : Prop := o.cls = .type "tuple" ∧ o.dict = none

mutual
inductive Rep (K : PySem.W.Frag) (c : Option Addr) (I : Hp) : V → D → Prop
  | non : Rep K c I .non .non
  | bl (b : Bool) : Rep K c I (.bl b) (.bl b)
  | int (i : Int) : Rep K c I (.int i) (.int i)
  | str (x : Str) : Rep K c I (.str x) (.str x)
  | tup {a : Addr} {o : Obj} {xs : List V} {ds : List D} : I a = some (.frz o (.tup xs)) → TupO o → RepL K c I xs ds → Rep K c I (.ref a) (.tup ds)
  | ktp {a : Addr} {xs : List V} {ds : List D} : SqT K I a xs → RepL K c I xs ds → Rep K c I (.ref a) (.ktp ds)
  | lst {a : Addr} {xs : List V} {ds : List D} : I a = some (.lst xs) → RepL K c I xs ds → Rep K c I (.ref a) (.lst ds)
  | dS {a : Addr} {kvs : List (Key × V)} {es : List (Str × D)} : I a = some (.dK kvs) → RepS K c I kvs es → Rep K c I (.ref a) (.dS es)
  | dT {a : Addr} {kvs : List (List Key × V)} {es : List (List Str × D)} : I a = some (.dT kvs) → RepT K c I kvs es → Rep K c I (.ref a) (.dT es)
  | sl {a : Addr} {ns : List Int} : SqL K I a (ns.map V.int) → Rep K c I (.ref a) (.sl ns)
  | rw {a : Addr} : c = some a → Rep K c I (.ref a) .rw
  | fn (v : V) : Rep K c I v (.fn v)
inductive RepL (K : PySem.W.Frag) (c : Option Addr) (I : Hp) : List V → List D → Prop
  | nil : RepL K c I [] []
  | cons {v : V} {d : D} {vs : List V} {ds : List D} : Rep K c I v d → RepL K c I vs ds → RepL K c I (v :: vs) (d :: ds)
inductive RepS (K : PySem.W.Frag) (c : Option Addr) (I : Hp) : List (Key × V) → List (Str × D) → Prop
  | nil : RepS K c I [] []
  | cons {v : V} {d : D} {k : Str} {vs : List (Key × V)} {ds : List (Str × D)} : Rep K c I v d → RepS K c I vs ds → RepS K c I ((.inr k, v) :: vs) ((k, d) :: ds)
inductive RepT (K : PySem.W.Frag) (c : Option Addr) (I : Hp) : List (List Key × V) → List (List Str × D) → Prop
  | nil : RepT K c I [] []
  | cons {v : V} {d : D} {k : List Str} {vs : List (List Key × V)} {ds : List (List Str × D)} : Rep K c I v d → RepT K c I vs ds → RepT K c I ((k.map Sum.inr, v) :: vs) ((k, d) :: ds)
end

def D.asT : D → Option (List D)
  | .tup xs => some xs
  | .ktp xs => some xs
  | _ => none
theorem Sub.refl (I : Hp) : Sub I I := fun _ _ h => .inl h
def Sb (I H : Hp) : Prop := ∀ a o, I a = some o → H a = some o
theorem Sb.refl (I : Hp) : Sb I I := fun _ _ h => h
theorem Sb.trans {I J H : Hp} (h : Sb I J) (g : Sb J H) : Sb I H := fun a o e => g a o (h a o e)
theorem Sb.sub {I J H : Hp} (h : Sb I J) (g : Sub J H) : Sub I H := fun a o e => g a o (h a o e)
theorem Kp.refl (c : Option Addr) (I : Hp) : Kp c I I := fun _ _ _ h => h
theorem Kp.trans {c : Option Addr} {I J H : Hp} (h : Kp c I J) (g : Kp c J H) : Kp c I H := fun a o n e => g a o n (h a o n e)
theorem Kp.up {c : Option Addr} {I J : Hp} (h : Kp none I J) : Kp c I J := fun a o _ e => h a o (by simp) e
theorem sb_rd {I J : Hp} (h : Sb I J) {a : Addr} {u : HO} (r : Rd I a u) : Rd J a u := by
  rcases r with r | ⟨o, r⟩
  · exact .inl (h _ _ r)
  · exact .inr ⟨o, h _ _ r⟩
theorem sb_sqT {K : PySem.W.Frag} {I J : Hp} (h : Sb I J) {a : Addr} {xs : List V} (r : SqT K I a xs) : SqT K J a xs := r.elim (fun r => .inl (sb_rd h r)) .inr
theorem sb_sqL {K : PySem.W.Frag} {I J : Hp} (h : Sb I J) {a : Addr} {xs : List V} (r : SqL K I a xs) : SqL K J a xs := r.elim (fun r => .inl (sb_rd h r)) .inr

section
variable {K : PySem.W.Frag} {c : Option Addr} {I J : Hp}
mutual
theorem Rep.mono (h : Sb I J) : ∀ {v : V} {d : D}, Rep K c I v d → Rep K c J v d
  | _, _, .non => .non
  | _, _, .bl b => .bl b
  | _, _, .int b => .int b
  | _, _, .str b => .str b
  | _, _, .tup s z r => .tup (h _ _ s) z (RepL.mono h r)
  | _, _, .ktp s r => .ktp (sb_sqT h s) (RepL.mono h r)
  | _, _, .lst s r => .lst (h _ _ s) (RepL.mono h r)
  | _, _, .dS s r => .dS (h _ _ s) (RepS.mono h r)
  | _, _, .dT s r => .dT (h _ _ s) (RepT.mono h r)
  | _, _, .sl s => .sl (sb_sqL h s)
  | _, _, .rw e => .rw e
  | _, _, .fn v => .fn v
theorem RepL.mono (h : Sb I J) : ∀ {vs : List V} {ds : List D}, RepL K c I vs ds → RepL K c J vs ds
  | _, _, .nil => .nil
  | _, _, .cons a b => .cons (Rep.mono h a) (RepL.mono h b)
theorem RepS.mono (h : Sb I J) : ∀ {vs : List (Key × V)} {ds : List (Str × D)}, RepS K c I vs ds → RepS K c J vs ds
  | _, _, .nil => .nil
  | _, _, .cons a b => .cons (Rep.mono h a) (RepS.mono h b)
theorem RepT.mono (h : Sb I J) : ∀ {vs : List (List Key × V)} {ds : List (List Str × D)}, RepT K c I vs ds → RepT K c J vs ds
  | _, _, .nil => .nil
  | _, _, .cons a b => .cons (Rep.mono h a) (RepT.mono h b)
end
theorem RepL.length : ∀ {vs : List V} {ds : List D}, RepL K c I vs ds → vs.length = ds.length
  | _, _, .nil => rfl
  | _, _, .cons _ r => congrArg Nat.succ r.length
theorem RepL.get : ∀ {vs : List V} {ds : List D} {i : Nat} {d : D}, RepL K c I vs ds → ds[i]? = some d → ∃ v, vs[i]? = some v ∧ Rep K c I v d
  | _, _, _, _, .nil, e => by simp at e
  | _, _, 0, _, .cons a _, e => by simp at e; subst e; exact ⟨_, rfl, a⟩
  | _, _, i + 1, d, .cons _ r, e => by
    obtain ⟨v, h1, h2⟩ := RepL.get (i := i) (d := d) r (by simpa using e)
    exact ⟨v, by simpa using h1, h2⟩
theorem RepL.app : ∀ {vs ws : List V} {ds es : List D}, RepL K c I vs ds → RepL K c I ws es → RepL K c I (vs ++ ws) (ds ++ es)
  | _, _, _, _, .nil, s => s
  | _, _, _, _, .cons a r, s => .cons a (r.app s)
theorem RepL.take : ∀ {vs : List V} {ds : List D} (n : Nat), RepL K c I vs ds → RepL K c I (vs.take n) (ds.take n)
  | _, _, 0, _ => .nil
  | _, _, _ + 1, .nil => .nil
  | _, _, n + 1, .cons a r => .cons a (r.take n)
theorem RepL.drop : ∀ {vs : List V} {ds : List D} (n : Nat), RepL K c I vs ds → RepL K c I (vs.drop n) (ds.drop n)
  | _, _, 0, r => r
  | _, _, _ + 1, .nil => .nil
  | _, _, n + 1, .cons a r => r.drop n
theorem RepL.one {v : V} {d : D} (h : Rep K c I v d) : RepL K c I [v] [d] := .cons h .nil
theorem RepL.ints : ∀ (ns : List Int), RepL K c I (ns.map V.int) (ns.map D.int)
  | [] => .nil
  | n :: ns => .cons (.int n) (RepL.ints ns)
theorem RepL.rep {vs : List V} {ds : List D} (h : RepL K c I vs ds) : ∀ n : Nat, RepL K c I (List.replicate n vs).flatten (List.replicate n ds).flatten
  | 0 => .nil
  | n + 1 => by
    rw [List.replicate_succ, List.replicate_succ, List.flatten_cons, List.flatten_cons]
    exact h.app (h.rep n)
end

theorem Rep.asT {K : PySem.W.Frag} {c : Option Addr} {I : Hp} {v : V} {d : D} {ds : List D} (h : Rep K c I v d) (e : d.asT = some ds) : ∃ a xs, v = .ref a ∧ SqT K I a xs ∧ RepL K c I xs ds := by
  cases h with
  | tup h _ r => cases e; exact ⟨_, _, rfl, .inl (.inr ⟨_, h⟩), r⟩
  | ktp h r => cases e; exact ⟨_, _, rfl, h, r⟩
  | _ => cases e
/-- the draws' list as it stands -/
def DW (K : PySem.W.Frag) (c : Option Addr) (s : Tau) (I H : Hp) : Prop :=
  ∀ r, c = some r → I r = none ∧ ∃ sc, H r = some (.lst [.ref sc, .int s.a, .int s.b, .int s.c]) ∧ SqL K I sc (s.ns.map V.int)
/-- from one state to a later one -/
structure Gr (c : Option Addr) (I H I' H' : Hp) : Prop where
  s1 : Sb I I'
  s2 : Sub I' H'
  kp : Kp c H H'
  nw : ∀ a, I' a ≠ none → I a ≠ none ∨ H a = none
theorem Gr.refl {c : Option Addr} {I H : Hp} (s : Sub I H) : Gr c I H I H := ⟨.refl _, s, .refl _ _, fun _ h => .inl h⟩
theorem Gr.trans {c : Option Addr} {I H I1 H1 I2 H2 : Hp} (hc : ∀ r, c = some r → H r ≠ none → I1 r = none → H1 r ≠ none) (g : Gr c I H I1 H1) (k : Gr c I1 H1 I2 H2) : Gr c I H I2 H2 :=
  ⟨g.s1.trans k.s1, k.s2, g.kp.trans k.kp, fun a h => by
    rcases k.nw a h with h | h
    · exact g.nw a h
    · by_cases e : c = some a
      · by_cases q : H a = none
        · exact .inr q
        · by_cases z : I1 a = none
          · exact absurd h (hc a e q z)
          · exact g.nw a z
      · right
        cases q : H a with
        | none => rfl
        | some o => rw [g.kp a o e q] at h; cases h⟩
theorem Gr.up {c : Option Addr} {I H I' H' : Hp} (g : Gr none I H I' H') : Gr c I H I' H' := ⟨g.s1, g.s2, g.kp.up, g.nw⟩
end Dl
end
section
set_option Elab.async false
set_option linter.all false
set_option maxRecDepth 100000
set_option maxHeartbeats 4000000
namespace Dl
open PySem PySem.Spec PyProof.Rows L2 StX

section
variable {K : PySem.W.Frag} {c : Option Addr} {I H I' H' I1 H1 I2 H2 : Hp} {s s1 s2 : Tau} {a p : Addr} {o : HO}
theorem Sub.get (h : Sub I H) (e : I a = some o) (n : ∀ kvs, o ≠ .dK kvs) : H a = some o := by
  rcases h a o e with q | ⟨⟨kvs, z⟩, _⟩
  · exact q
  · exact absurd z (n kvs)
theorem Sub.lst {xs : List V} (h : Sub I H) (e : I a = some (.lst xs)) : H a = some (.lst xs) := h.get e fun _ z => by cases z
theorem Sub.tup {xs : List V} (h : Sub I H) (e : I a = some (.tup xs)) : H a = some (.tup xs) := h.get e fun _ z => by cases z
theorem Sub.dT {xs : List (List Key × V)} (h : Sub I H) (e : I a = some (.dT xs)) : H a = some (.dT xs) := h.get e fun _ z => by cases z
theorem Sub.dK {xs : List (Key × V)} (h : Sub I H) (e : I a = some (.dK xs)) : Rd H a (.dK xs) := by
  rcases h a _ e with q | ⟨_, q⟩
  · exact .inl q
  · exact .inr q
theorem Sub.rdT {xs : List V} (h : Sub I H) (e : Rd I a (.tup xs)) : Rd H a (.tup xs) := by
  rcases e with e | ⟨o, e⟩
  · exact .inl (h.get e fun _ z => by cases z)
  · exact .inr ⟨o, h.get e fun _ z => by cases z⟩
theorem Sub.rdL {xs : List V} (h : Sub I H) (e : Rd I a (.lst xs)) : Rd H a (.lst xs) := by
  rcases e with e | ⟨o, e⟩
  · exact .inl (h.get e fun _ z => by cases z)
  · exact .inr ⟨o, h.get e fun _ z => by cases z⟩
theorem Sub.sqT {xs : List V} (h : Sub I H) (e : SqT K I a xs) : SqT K H a xs := e.elim (fun e => .inl (h.rdT e)) .inr
theorem Sub.sqL {xs : List V} (h : Sub I H) (e : SqL K I a xs) : SqL K H a xs := e.elim (fun e => .inl (h.rdL e)) .inr
theorem Sub.free (h : Sub I H) (e : H a = none) : I a = none := by
  cases q : I a with
  | none => rfl
  | some o =>
    rcases h a o q with z | ⟨_, ob, z⟩
    · rw [e] at z; cases z
    · rw [e] at z; cases z
theorem Gr.new (s : Sub I H) (h : H p = none) : Gr none I H (upd I p o) (upd H p o) := by
  have hI := s.free h
  refine ⟨fun a u e => ?_, fun a u e => ?_, fun a u _ e => ?_, fun a e => ?_⟩
  · rw [upd_ne (ne_of_none e hI)]; exact e
  · by_cases z : a = p
    · subst z; rw [upd_same] at e ⊢; exact .inl e
    · rw [upd_ne z] at e ⊢; exact s a u e
  · rw [upd_ne (ne_of_none e h)]; exact e
  · by_cases z : a = p
    · subst z; exact .inr h
    · rw [upd_ne z] at e; exact .inl e
theorem DW.gr (w : DW K c s I H) (g : Gr none I H I' H') : DW K c s I' H' := fun r e => by
  obtain ⟨h1, sc, h2, h3⟩ := w r e
  refine ⟨?_, sc, g.kp _ _ (by simp) h2, sb_sqL g.s1 h3⟩
  cases q : I' r with
  | none => rfl
  | some o =>
    rcases g.nw r (by rw [q]; simp) with z | z
    · exact absurd h1 z
    · rw [h2] at z; cases z
theorem Gr.tr (g : Gr c I H I1 H1) (w : DW K c s I1 H1) (k : Gr c I1 H1 I2 H2) : Gr c I H I2 H2 :=
  g.trans (fun r e h1 h2 => by
    obtain ⟨_, sc, q, _⟩ := w r e
    rw [q]; simp) k

/-- slots -/
inductive Sl where
  | un | im (d : D) | ow (d : D)
inductive OwOk (K : PySem.W.Frag) (c : Option Addr) (I H : Hp) (p : Addr) : D → Prop
  | lst {vs : List V} {ds : List D} : H p = some (.lst vs) → RepL K c I vs ds → I p = none → c ≠ some p → OwOk K c I H p (.lst ds)
  | dS {vs : List (Key × V)} {ds : List (Str × D)} : H p = some (.dK vs) → RepS K c I vs ds → I p = none → c ≠ some p → OwOk K c I H p (.dS ds)
inductive SlOk (K : PySem.W.Frag) (c : Option Addr) (I H : Hp) : Option V → Sl → Prop
  | un (o : Option V) : SlOk K c I H o .un
  | im {v : V} {d : D} : Rep K c I v d → SlOk K c I H (some v) (.im d)
  | ow {p : Addr} {d : D} : OwOk K c I H p d → SlOk K c I H (some (.ref p)) (.ow d)
inductive SlL (K : PySem.W.Frag) (c : Option Addr) (I H : Hp) : L2.St → List Sl → Prop
  | nil : SlL K c I H [] []
  | cons {o : Option V} {x : Sl} {σ : L2.St} {ρ : List Sl} : SlOk K c I H o x → SlL K c I H σ ρ → SlL K c I H (o :: σ) (x :: ρ)
/-- no two slots own one object -/
def Uq (σ : L2.St) (ρ : List Sl) : Prop := ∀ (i j : Nat) (p : Addr) (d e : D), i ≠ j → σ[i]? = some (some (V.ref p)) → σ[j]? = some (some (V.ref p)) → ρ[i]? = some (Sl.ow d) → ρ[j]? = some (Sl.ow e) → False
structure Ec (K : PySem.W.Frag) (c : Option Addr) (I H : Hp) (σ : L2.St) (ρ : List Sl) (s : Tau) : Prop where
  sub : Sub I H
  w : DW K c s I H
  sl : SlL K c I H σ ρ
  uq : Uq σ ρ
theorem OwOk.grow {d : D} (h : OwOk K c I H p d) (g : Gr c I H I' H') : OwOk K c I' H' p d := by
  have fr : ∀ {o}, H p = some o → I p = none → I' p = none := fun {o} h1 h2 => by
    cases q : I' p with
    | none => rfl
    | some u =>
      rcases g.nw p (by rw [q]; simp) with z | z
      · exact absurd h2 z
      · rw [h1] at z; cases z
  cases h with
  | lst h1 h2 h3 h4 => exact .lst (g.kp _ _ h4 h1) (h2.mono g.s1) (fr h1 h3) h4
  | dS h1 h2 h3 h4 => exact .dS (g.kp _ _ h4 h1) (h2.mono g.s1) (fr h1 h3) h4
theorem SlOk.grow {v : Option V} {x : Sl} (h : SlOk K c I H v x) (g : Gr c I H I' H') : SlOk K c I' H' v x := by
  cases h with
  | un => exact .un _
  | im h => exact .im (h.mono g.s1)
  | ow h => exact .ow (h.grow g)
theorem SlL.grow (g : Gr c I H I' H') : ∀ {σ : L2.St} {ρ : List Sl}, SlL K c I H σ ρ → SlL K c I' H' σ ρ
  | _, _, .nil => .nil
  | _, _, .cons a r => .cons (a.grow g) (r.grow g)
theorem SlL.length : ∀ {σ : L2.St} {ρ : List Sl}, SlL K c I H σ ρ → σ.length = ρ.length
  | _, _, .nil => rfl
  | _, _, .cons _ r => congrArg Nat.succ r.length
theorem SlL.get : ∀ {σ : L2.St} {ρ : List Sl} {i : Nat} {x : Sl}, SlL K c I H σ ρ → ρ[i]? = some x → ∃ v, σ[i]? = some v ∧ SlOk K c I H v x
  | _, _, _, _, .nil, e => by simp at e
  | _, _, 0, _, .cons a _, e => by simp at e; subst e; exact ⟨_, rfl, a⟩
  | _, _, i + 1, x, .cons _ r, e => by
    obtain ⟨v, h1, h2⟩ := SlL.get (i := i) (x := x) r (by simpa using e)
    exact ⟨v, by simpa using h1, h2⟩
theorem SlL.set {v : Option V} {x : Sl} (h : SlOk K c I H v x) : ∀ {σ : L2.St} {ρ : List Sl} (i : Nat), SlL K c I H σ ρ → SlL K c I H (σ.set i v) (ρ.set i x)
  | _, _, _, .nil => .nil
  | _, _, 0, .cons _ r => .cons h r
  | _, _, i + 1, .cons a r => .cons a (SlL.set h i r)
theorem Ec.grow {σ : L2.St} {ρ : List Sl} (e : Ec K c I H σ ρ s) (g : Gr c I H I' H') (w : DW K c s1 I' H') : Ec K c I' H' σ ρ s1 := ⟨g.s2, w, e.sl.grow g, e.uq⟩
theorem Ec.imm {σ : L2.St} {ρ : List Sl} {i : Nat} {d : D} (e : Ec K c I H σ ρ s) (h : ρ[i]? = some (.im d)) : ∃ v, σ[i]? = some (some v) ∧ Rep K c I v d := by
  obtain ⟨v, h1, h2⟩ := e.sl.get h
  cases h2 with
  | im r => exact ⟨_, h1, r⟩
/-- a slot gets an unowned value -/
theorem Uq.setI {σ : L2.St} {ρ : List Sl} (h : Uq σ ρ) {i : Nat} {v : Option V} {x : Sl} (hx : ∀ d, x ≠ .ow d) : Uq (σ.set i v) (ρ.set i x) := fun k j p d e hne h1 h2 h3 h4 => by
  have ne : ∀ (m : Nat) (d : D), (ρ.set i x)[m]? = some (.ow d) → m ≠ i := fun m d q z => by
    subst z
    rw [List.getElem?_set] at q
    simp only [if_true] at q
    split at q
    · exact hx _ (Option.some.inj q)
    · cases q
  have n1 := ne _ _ h3
  have n2 := ne _ _ h4
  rw [List.getElem?_set_ne (Ne.symm n1)] at h1 h3
  rw [List.getElem?_set_ne (Ne.symm n2)] at h2 h4
  exact h k j p d e hne h1 h2 h3 h4
theorem Ec.setI {σ : L2.St} {ρ : List Sl} {v : V} {d : D} (e : Ec K c I H σ ρ s) (r : Rep K c I v d) (i : Nat) : Ec K c I H (σ.set i (some v)) (ρ.set i (.im d)) s :=
  ⟨e.sub, e.w, .set (.im r) i e.sl, e.uq.setI fun _ z => by cases z⟩
end

/-! what an expression means -/
abbrev Dn := List Sl → Tau → Option (D × Tau)
abbrev Dt := List Sl → Tau → Option (Bool × Tau)
abbrev Da := List Sl → Tau → Option (List D × Tau)
abbrev Do := List Sl → Tau → Option (Option Int × Tau)
def SndE (K : PySem.W.Frag) (te : TE) (dn : Dn) : Prop := ∀ c I H σ ρ s d s', Ec K c I H σ ρ s → dn ρ s = some (d, s') →
  ∀ Q : VK, (∀ v I' H', Gr c I H I' H' → DW K c s' I' H' → Rep K c I' v d → Q v H') → te σ H Q
def SndT (K : PySem.W.Frag) (te : TT) (dn : Dt) : Prop := ∀ c I H σ ρ s b s', Ec K c I H σ ρ s → dn ρ s = some (b, s') →
  ∀ Q : Bool → Hp → Prop, (∀ I' H', Gr c I H I' H' → DW K c s' I' H' → Q b H') → te σ H Q
def SndA (K : PySem.W.Frag) (te : TA) (dn : Da) : Prop := ∀ c I H σ ρ s ds s', Ec K c I H σ ρ s → dn ρ s = some (ds, s') →
  ∀ Q : List V → Hp → Prop, (∀ vs I' H', Gr c I H I' H' → DW K c s' I' H' → RepL K c I' vs ds → Q vs H') → te σ H Q
def SndO (K : PySem.W.Frag) (te : TO) (dn : Do) : Prop := ∀ c I H σ ρ s o s', Ec K c I H σ ρ s → dn ρ s = some (o, s') →
  ∀ Q : Option Int → Hp → Prop, (∀ I' H', Gr c I H I' H' → DW K c s' I' H' → Q o H') → te σ H Q
structure EE (X : Cx) (e : Expr) (te : TE) (dn : Dn) : Prop where
  p : PE X e te
  s : SndE X.K te dn
structure ET (X : Cx) (e : Expr) (te : TT) (dn : Dt) : Prop where
  p : PT X e te
  s : SndT X.K te dn
structure EA (X : Cx) (es : List Expr) (te : TA) (dn : Da) : Prop where
  p : PA X es te
  s : SndA X.K te dn
structure EO (X : Cx) (e : Option Expr) (te : TO) (dn : Do) : Prop where
  p : PO X e te
  s : SndO X.K te dn

/-- operations on data; nothing but new objects comes of them -/
def RQ (K : PySem.W.Frag) (c : Option Addr) (I H : Hp) (z : D) (Q : VK) : Prop := ∀ v I' H', Gr none I H I' H' → Rep K c I' v z → Q v H'
def Snd1 (K : PySem.W.Frag) (r : V → Hp → VK → Prop) (f : D → Option D) : Prop := ∀ c I H x d z, Sub I H → Rep K c I x d → f d = some z → ∀ Q, RQ K c I H z Q → r x H Q
def Snd2 (K : PySem.W.Frag) (r : R2) (f : D → D → Option D) : Prop := ∀ c I H x y d e z, Sub I H → Rep K c I x d → Rep K c I y e → f d e = some z → ∀ Q, RQ K c I H z Q → r x y H Q
def SndL (K : PySem.W.Frag) (r : List V → Hp → VK → Prop) (f : List D → Option D) : Prop := ∀ c I H xs ds z, Sub I H → RepL K c I xs ds → f ds = some z → ∀ Q, RQ K c I H z Q → r xs H Q
def SndM (K : PySem.W.Frag) (r : V → List V → Hp → VK → Prop) (f : D → List D → Option D) : Prop := ∀ c I H x d xs ds z, Sub I H → Rep K c I x d → RepL K c I xs ds → f d ds = some z → ∀ Q, RQ K c I H z Q → r x xs H Q
/-- the value itself, no new object -/
theorem RQ.val {K : PySem.W.Frag} {c : Option Addr} {I H : Hp} {z : D} {Q : VK} {v : V} (q : RQ K c I H z Q) (s : Sub I H) (r : Rep K c I v z) : Q v H := q v I H (.refl s) r
theorem RQ.tup {K : PySem.W.Frag} {c : Option Addr} {I H : Hp} {ds : List D} {vs : List V} {Q : VK} {p : Addr} {o : Obj} (q : RQ K c I H (.tup ds) Q) (s : Sub I H) (h : H p = none) (ho : TupO o) (r : RepL K c I vs ds) : Q (.ref p) (upd H p (.frz o (.tup vs))) :=
  q _ _ _ (.new s h) (.tup upd_same ho (r.mono (Gr.new (o := .frz o (.tup vs)) s h).s1))
theorem RQ.ktp {K : PySem.W.Frag} {c : Option Addr} {I H : Hp} {ds : List D} {vs : List V} {Q : VK} {p : Addr} (q : RQ K c I H (.ktp ds) Q) (s : Sub I H) (h : H p = none) (r : RepL K c I vs ds) : Q (.ref p) (upd H p (.tup vs)) :=
  q _ _ _ (.new s h) (.ktp (.of upd_same) (r.mono (Gr.new (o := .tup vs) s h).s1))
theorem RQ.lst {K : PySem.W.Frag} {c : Option Addr} {I H : Hp} {ds : List D} {vs : List V} {Q : VK} {p : Addr} (q : RQ K c I H (.lst ds) Q) (s : Sub I H) (h : H p = none) (r : RepL K c I vs ds) : Q (.ref p) (upd H p (.lst vs)) :=
  q _ _ _ (.new s h) (.lst upd_same (r.mono (Gr.new (o := .lst vs) s h).s1))

/-! the pieces -/
/-- a written tuple, its object known to bear nothing -/
def tTupF (t : TA) : TE := fun σ H Q => t σ H fun xs H1 => xs.length ≤ sizeLine ∧ ∀ (p : Addr) (o : Obj), H1 p = none → TupO o → Q (.ref p) (upd H1 p (.frz o (.tup xs)))
theorem pe_tupF {X : Cx} {es : List Expr} {k : Nat} {pos : Pos} {t : TA} (h : PA X es t) : PE X (.Tuple es k pos) (tTupF t) := by
  refine ⟨fun pins s σ H Q I hq => wpAny_Tuple_spliced (thn (h.run pos pins s σ H _ I hq) fun us s1 z => ?_)⟩
  obtain ⟨xs, H1, I1, r, z, q⟩ := z
  refine ⟨by rw [← r.length]; exact z, ?_⟩
  have hg : (s1.heap.push { cls := .type "tuple", data := .seq us.toArray }).get? s1.heap.objs.size = some { cls := .type "tuple", data := .seq us.toArray } := Heap.get?_push_size _ rfl
  have J : Inv X pins σ (upd H1 s1.heap.objs.size (.frz { cls := .type "tuple", data := .seq us.toArray } (.tup xs))) { s1 with heap := s1.heap.push { cls := .type "tuple", data := .seq us.toArray }, toks := s1.toks } :=
    I1.laid (t' := s1.toks) (fun _ _ e => Heap.get?_push_of_some _ e) (Nat.le_refl _) ⟨hg, z, us, r, _, hg, rfl, _, rfl⟩
  exact ⟨.ref _, _, J, rfl, q _ _ (I1.hok.fresh (Nat.le_refl _)) ⟨rfl, rfl⟩⟩
/-- tuple(a list or a tuple) -/
def rTupOf (K : PySem.W.Frag) : List V → Hp → VK → Prop := fun xs H Q => ∃ p ys, xs = [.ref p] ∧ ((SqL K H p ys ∧ ∀ (l : Addr) (o : Obj), H l = none → TupO o → Q (.ref l) (upd H l (.frz o (.tup ys)))) ∨ (SqT K H p ys ∧ Q (.ref p) H))
theorem call_tupF {X : Cx} : CallR X (.type "tuple") (rTupOf X.K) := by
  intro pins s σ H xs us Q I r h
  obtain ⟨p, ys, rfl, h⟩ := h
  rcases h with ⟨hq, q⟩ | ⟨hq, q⟩
  · obtain ⟨u, rfl, rx⟩ := vals1 r
    obtain rfl : u = Value.ref p := rx
    obtain ⟨its, r', pl, hz⟩ := I.list hq
    have hlen := r'.length
    refine call_tuple_list pl.isList (fun h' kp => ?_) (by rw [List.size_toArray]; omega)
    have J : Inv X pins σ H { s with heap := h' } := I.kept (t' := s.toks) kp
    have hg : (h'.push { cls := .type "tuple", data := .seq its.toArray }).get? h'.objs.size = some { cls := .type "tuple", data := .seq its.toArray } := Heap.get?_push_size _ rfl
    have J2 : Inv X pins σ (upd H h'.objs.size (.frz { cls := .type "tuple", data := .seq its.toArray } (.tup ys))) { s with heap := h'.push { cls := .type "tuple", data := .seq its.toArray } } :=
      J.laid (t' := s.toks) (fun _ _ e => Heap.get?_push_of_some _ e) (Nat.le_refl _) ⟨hg, hz, its, r', _, hg, rfl, _, rfl⟩
    exact ⟨.ref _, _, J2, rfl, q _ _ (J.hok.fresh (Nat.le_refl _)) ⟨rfl, rfl⟩⟩
  · exact call_tuple_of pins s σ H _ us Q I r ⟨p, ys, rfl, .inr ⟨hq, q⟩⟩
/-- t.count(x), t a tuple whose object bears nothing -/
def tTCount (to te : TE) : TE := fun σ H Q => to σ H fun x H1 => ∃ (p : Addr) (o : Obj) (ys : List V), x = .ref p ∧ H1 p = some (.frz o (.tup ys)) ∧ TupO o ∧
  te σ H1 fun y H2 => H2 p = some (.frz o (.tup ys)) ∧ flatV y = true ∧ ys.all flatV = true ∧ Q (.int ((ys.countP fun z => eqV z y : Nat) : Int)) H2
theorem countP_eqU {x : V} : ∀ {xs : List V} {us : List Value}, Vals xs us → xs.all flatV = true → us.countP (eqU x) = xs.countP fun y => eqV y x
  | _, _, .nil, _ => rfl
  | y :: xs, u :: us, .cons r t, f => by
    rw [List.all_cons, Bool.and_eq_true] at f
    rw [List.countP_cons, List.countP_cons, eqU_of r f.1, countP_eqU t f.2]
theorem pe_tcount {X : Cx} {o e : Expr} {to te : TE} {apos cpos : Pos} (ho : PE X o to) (he : PE X e te) (hbase : attributeBase o "count" X.env (eval o X.env) = eval o X.env := by rfl) (hline : (apos.endLine == cpos.line) = true := by rfl)
    (hs : starEach [e] X.env = [(false, eval e X.env)] := by rfl) : PE X (.Call (.Attribute o "count" apos) [e] [] cpos) (tTCount to te) := by
  refine ⟨fun pins s σ H Q I h => wpAny_Call_method1_late hbase hline (by rw [hs]; rfl) (thn (ho.run pins s σ H _ I h) fun v s1 z => ?_)⟩
  obtain ⟨x, H1, I1, rx, p, ob, ys, rfl, hp, hto, hq⟩ := z
  obtain rfl : v = Value.ref p := rx
  have hg : s1.heap.get? p = some ob := (I1.hok p _ hp).1
  refine ⟨"tuple", "tuple.count", PySem.F.plainAttrs_tuple, PySem.F.slot_tuple_count, PySem.F.type_tuple_count, ⟨ob, hg, hto.1⟩, fun a ea => ?_, ?_⟩
  · cases ea
    exact ⟨ob, hg, hto.2⟩
  refine Calls.callWith_builtin rfl (Calls.evalArgs_plain ?_)
  refine Calls.spliced_cons (thn (he.run pins s1 σ H1 _ I1 hq) fun u s2 z => Calls.spliced_nil ?_)
  obtain ⟨y, H2, I2, ry, hp2, fy, fs, q⟩ := z
  obtain ⟨hg2, hz, its, r, hit⟩ := I2.hok p _ hp2
  obtain ⟨o2, h1, h2, n, h3⟩ := hit
  rw [hg2] at h1
  cases h1
  obtain ⟨cls, dd, dt, sl⟩ := ob
  simp only at h2 h3
  subst h2
  subst h3
  refine call_meets PySem.F.slot_tuple_count ⟨_, hg2, rfl⟩ PySem.F.entry_tuple_count (PySem.F.args_tuple_count_2 _ _) (SeqAt.tuple_countAt p its.toArray n dd sl u (eqU y)) ⟨hg2, fun w hw => mem_eqAt ry fy r fs w (by simpa using hw), ?_⟩
  rw [show its.toArray.toList = its from rfl, countP_eqU r fs]
  exact ⟨.int _, H2, I2.tok _, ⟨_, rfl⟩, q⟩

def dVar (i : Nat) : Dn := fun ρ s => match ρ[i]? with
  | some (.im d) => some (d, s)
  | _ => none
def dC (d : D) : Dn := fun _ s => some (d, s)
def dOp (f : D → D → Option D) (da db : Dn) : Dn := fun ρ s => (da ρ s).bind fun p => (db ρ p.2).bind fun q => (f p.1 q.1).map fun z => (z, q.2)
def dUn (f : D → Option D) (da : Dn) : Dn := fun ρ s => (da ρ s).bind fun p => (f p.1).map fun z => (z, p.2)
def dCallB (f : List D → Option D) (da : Da) : Dn := fun ρ s => (da ρ s).bind fun p => (f p.1).map fun z => (z, p.2)
def dMeth (f : D → List D → Option D) (dx : Dn) (da : Da) : Dn := fun ρ s => (dx ρ s).bind fun p => (da ρ p.2).bind fun q => (f p.1 q.1).map fun z => (z, q.2)
def dNil : Da := fun _ s => some ([], s)
def dCons (da : Dn) (dr : Da) : Da := fun ρ s => (da ρ s).bind fun p => (dr ρ p.2).map fun q => (p.1 :: q.1, q.2)
/-- the items of a list or tuple -/
def D.its : D → Option (List D)
  | .tup xs => some xs
  | .ktp xs => some xs
  | .lst xs => some xs
  | _ => none
theorem _root_.Dl.Rep.its {K : PySem.W.Frag} {c : Option Addr} {I : Hp} {v : V} {d : D} {ds : List D} (h : Rep K c I v d) (e : d.its = some ds) : ∃ a xs, v = .ref a ∧ (SqT K I a xs ∨ SqL K I a xs) ∧ RepL K c I xs ds := by
  cases h with
  | tup h _ r => cases e; exact ⟨_, _, rfl, .inl (.inl (.inr ⟨_, h⟩)), r⟩
  | ktp h r => cases e; exact ⟨_, _, rfl, .inl h, r⟩
  | lst h r => cases e; exact ⟨_, _, rfl, .inr (.of h), r⟩
  | _ => cases e
def dStar (da : Dn) (dr : Da) : Da := fun ρ s => (da ρ s).bind fun p => p.1.its.bind fun ds => (dr ρ p.2).map fun q => (ds ++ q.1, q.2)
def dTup (da : Da) : Dn := fun ρ s => (da ρ s).bind fun p => if p.1.length ≤ 1000000 then some (.tup p.1, p.2) else none
def dLst (da : Da) : Dn := fun ρ s => (da ρ s).bind fun p => if p.1.length ≤ 1000000 then some (.lst p.1, p.2) else none
def dB (da : Dn) : Dt := fun ρ s => (da ρ s).bind fun p => match p.1 with
  | .bl b => some (b, p.2)
  | _ => none
def dAnd (a b : Dt) : Dt := fun ρ s => (a ρ s).bind fun p => if p.1 = true then b ρ p.2 else some (false, p.2)
def dOr (a b : Dt) : Dt := fun ρ s => (a ρ s).bind fun p => if p.1 = true then some (true, p.2) else b ρ p.2
def dNot (a : Dt) : Dt := fun ρ s => (a ρ s).map fun p => (!p.1, p.2)
def dAndV (a b : Dn) : Dn := fun ρ s => (a ρ s).bind fun p => match p.1 with
  | .bl true => b ρ p.2
  | .bl false => some (.bl false, p.2)
  | _ => none
def dOrV (a b : Dn) : Dn := fun ρ s => (a ρ s).bind fun p => match p.1 with
  | .bl true => some (.bl true, p.2)
  | .bl false => b ρ p.2
  | _ => none
def dNotV (a : Dn) : Dn := fun ρ s => (a ρ s).bind fun p => match p.1 with
  | .bl b => some (.bl (!b), p.2)
  | _ => none
def dIf (t : Dt) (a b : Dn) : Dn := fun ρ s => (t ρ s).bind fun p => if p.1 = true then a ρ p.2 else b ρ p.2
def dChain (f g : D → D → Option D) (da db dc : Dn) : Dn := fun ρ s => (da ρ s).bind fun p => (db ρ p.2).bind fun q => (f p.1 q.1).bind fun z => match z with
  | .bl true => (dc ρ q.2).bind fun r => (g q.1 r.1).map fun z => (z, r.2)
  | .bl false => some (.bl false, q.2)
  | _ => none
def dNone : Do := fun _ s => some (none, s)
def dSome (da : Dn) : Do := fun ρ s => (da ρ s).bind fun p => match p.1 with
  | .int i => some (some i, p.2)
  | _ => none
def dSl (f : D → Option Int → Option Int → Option D) (da : Dn) (dl dh : Do) : Dn := fun ρ s => (da ρ s).bind fun p => (dl ρ p.2).bind fun l => (dh ρ l.2).bind fun h => (f p.1 l.1 h.1).map fun z => (z, h.2)
def SndSl (K : PySem.W.Frag) (r : V → Option Int → Option Int → Hp → VK → Prop) (f : D → Option Int → Option Int → Option D) : Prop := ∀ c I H x d lo hi z, Sub I H → Rep K c I x d → f d lo hi = some z → ∀ Q, RQ K c I H z Q → r x lo hi H Q

theorem bind_some_of {α β : Type} {o : Option α} {f : α → Option β} {z : β} (h : o.bind f = some z) : ∃ x, o = some x ∧ f x = some z := by
  cases o with
  | none => cases h
  | some x => exact ⟨x, rfl, h⟩
theorem map_some_of {α β : Type} {o : Option α} {f : α → β} {z : β} (h : o.map f = some z) : ∃ x, o = some x ∧ f x = z := by
  cases o with
  | none => cases h
  | some x => exact ⟨x, rfl, Option.some.inj h⟩

section
variable {K : PySem.W.Frag} {ta tb tc : TE} {da db dc : Dn} {tA tB' : TT} {bA bB : Dt} {tx : TA} {ax : Da}
theorem sn_var (i : Nat) : SndE K (tVar i) (dVar i) := fun c I H σ ρ s d s' e h Q q => by
  unfold dVar at h
  split at h
  · rename_i d' hd
    cases h
    obtain ⟨v, h1, r⟩ := e.imm hd
    exact ⟨v, h1, q v I H (.refl e.sub) e.w r⟩
  · cases h
theorem sn_c {v : V} {d : D} (r : ∀ c I, Rep K c I v d) : SndE K (tC v) (dC d) := fun c I H σ ρ s d' s' e h Q q => by
  cases h
  exact q v I H (.refl e.sub) e.w (r c I)
theorem sn_op {r : R2} {f : D → D → Option D} (ha : SndE K ta da) (hb : SndE K tb db) (hr : Snd2 K r f) : SndE K (tOp r ta tb) (dOp f da db) := fun c I H σ ρ s d s' e h Q q => by
  obtain ⟨⟨x, s1⟩, h1, h⟩ := bind_some_of h
  obtain ⟨⟨y, s2⟩, h2, h⟩ := bind_some_of h
  obtain ⟨z, h3, h⟩ := map_some_of h
  cases h
  refine ha _ _ _ _ _ _ _ _ e h1 _ fun v I1 H1 g1 w1 r1 => ?_
  refine hb _ _ _ _ _ _ _ _ (e.grow g1 w1) h2 _ fun u I2 H2 g2 w2 r2 => ?_
  refine hr _ _ _ _ _ _ _ _ g2.s2 (r1.mono g2.s1) r2 h3 _ fun t I3 H3 g3 r3 => ?_
  exact q t I3 H3 ((g1.tr w1 g2).tr w2 g3.up) (w2.gr g3) r3
theorem sn_un {r : V → Hp → VK → Prop} {f : D → Option D} (ha : SndE K ta da) (hr : Snd1 K r f) : SndE K (fun σ H Q => ta σ H fun x H1 => r x H1 Q) (dUn f da) := fun c I H σ ρ s d s' e h Q q => by
  obtain ⟨⟨x, s1⟩, h1, h⟩ := bind_some_of h
  obtain ⟨z, h3, h⟩ := map_some_of h
  cases h
  refine ha _ _ _ _ _ _ _ _ e h1 _ fun v I1 H1 g1 w1 r1 => ?_
  refine hr _ _ _ _ _ _ g1.s2 r1 h3 _ fun t I3 H3 g3 r3 => ?_
  exact q t I3 H3 (g1.tr w1 g3.up) (w1.gr g3) r3
theorem sn_callB {r : List V → Hp → VK → Prop} {f : List D → Option D} (ha : SndA K tx ax) (hr : SndL K r f) : SndE K (tCB r tx) (dCallB f ax) := fun c I H σ ρ s d s' e h Q q => by
  obtain ⟨⟨x, s1⟩, h1, h⟩ := bind_some_of h
  obtain ⟨z, h3, h⟩ := map_some_of h
  cases h
  refine ha _ _ _ _ _ _ _ _ e h1 _ fun v I1 H1 g1 w1 r1 => ?_
  refine hr _ _ _ _ _ _ g1.s2 r1 h3 _ fun t I3 H3 g3 r3 => ?_
  exact q t I3 H3 (g1.tr w1 g3.up) (w1.gr g3) r3
theorem sn_nil : SndA K tNil dNil := fun c I H σ ρ s d s' e h Q q => by
  cases h
  exact q [] I H (.refl e.sub) e.w .nil
theorem sn_cons (ha : SndE K ta da) (hx : SndA K tx ax) : SndA K (tCons ta tx) (dCons da ax) := fun c I H σ ρ s d s' e h Q q => by
  obtain ⟨⟨x, s1⟩, h1, h⟩ := bind_some_of h
  obtain ⟨⟨y, s2⟩, h2, h⟩ := map_some_of h
  cases h
  refine ha _ _ _ _ _ _ _ _ e h1 _ fun v I1 H1 g1 w1 r1 => ?_
  refine hx _ _ _ _ _ _ _ _ (e.grow g1 w1) h2 _ fun u I2 H2 g2 w2 r2 => ?_
  exact q _ I2 H2 (g1.tr w1 g2) w2 (.cons (r1.mono g2.s1) r2)
theorem sn_star (ha : SndE K ta da) (hx : SndA K tx ax) : SndA K (tStar K ta tx) (dStar da ax) := fun c I H σ ρ s d s' e h Q q => by
  obtain ⟨⟨x, s1⟩, h1, h⟩ := bind_some_of h
  obtain ⟨ds, hi, h⟩ := bind_some_of h
  obtain ⟨⟨y, s2⟩, h2, h⟩ := map_some_of h
  cases h
  refine ha _ _ _ _ _ _ _ _ e h1 _ fun v I1 H1 g1 w1 r1 => ?_
  obtain ⟨a, xs, rfl, hs, hr⟩ := r1.its hi
  refine ⟨a, xs, rfl, hs.elim (fun z => .inl (g1.s2.sqT z)) (fun z => .inr (g1.s2.sqL z)), ?_⟩
  refine hx _ _ _ _ _ _ _ _ (e.grow g1 w1) h2 _ fun u I2 H2 g2 w2 r2 => ?_
  exact q _ I2 H2 (g1.tr w1 g2) w2 ((hr.mono g2.s1).app r2)
theorem mil {n : Nat} (h : n ≤ 1000000) : n ≤ sizeLine := Nat.le_trans h (by decide)
theorem sn_tup (hx : SndA K tx ax) : SndE K (tTupF tx) (dTup ax) := fun c I H σ ρ s d s' e h Q q => by
  obtain ⟨⟨x, s1⟩, h1, h⟩ := bind_some_of h
  split at h
  · rename_i hl
    cases h
    refine hx _ _ _ _ _ _ _ _ e h1 _ fun vs I1 H1 g1 w1 r1 => ⟨mil (by rw [r1.length]; exact hl), fun p o hp ho => ?_⟩
    have g := Gr.new (o := .frz o (.tup vs)) g1.s2 hp
    exact q _ _ _ (g1.tr w1 g.up) (w1.gr g) (.tup upd_same ho (r1.mono g.s1))
  · cases h
theorem sn_lst (hx : SndA K tx ax) : SndE K (tLst tx) (dLst ax) := fun c I H σ ρ s d s' e h Q q => by
  obtain ⟨⟨x, s1⟩, h1, h⟩ := bind_some_of h
  split at h
  · rename_i hl
    cases h
    refine hx _ _ _ _ _ _ _ _ e h1 _ fun vs I1 H1 g1 w1 r1 => ⟨mil (by rw [r1.length]; exact hl), fun p hp => ?_⟩
    have g := Gr.new (o := .lst vs) g1.s2 hp
    exact q _ _ _ (g1.tr w1 g.up) (w1.gr g) (.lst upd_same (r1.mono g.s1))
  · cases h
theorem sn_B (ha : SndE K ta da) : SndT K (tB ta) (dB da) := fun c I H σ ρ s b s' e h Q q => by
  obtain ⟨⟨x, s1⟩, h1, h⟩ := bind_some_of h
  refine ha _ _ _ _ _ _ _ _ e h1 _ fun v I1 H1 g1 w1 r1 => ?_
  cases r1 with
  | bl k => cases h; exact ⟨_, rfl, q _ _ g1 w1⟩
  | _ => cases h
theorem sn_test (ha : SndE K ta da) : SndT K (tTest ta) (dB da) := fun c I H σ ρ s b s' e h Q q => by
  obtain ⟨⟨x, s1⟩, h1, h⟩ := bind_some_of h
  refine ha _ _ _ _ _ _ _ _ e h1 _ fun v I1 H1 g1 w1 r1 => ?_
  cases r1 with
  | bl k => cases h; exact ⟨_, rfl, q _ _ g1 w1⟩
  | _ => cases h
theorem sn_and (ha : SndT K tA bA) (hb : SndT K tB' bB) : SndT K (tAnd tA tB') (dAnd bA bB) := fun c I H σ ρ s b s' e h Q q => by
  obtain ⟨⟨x, s1⟩, h1, h⟩ := bind_some_of h
  refine ha _ _ _ _ _ _ _ _ e h1 _ fun I1 H1 g1 w1 => ?_
  cases x with
  | true => exact hb _ _ _ _ _ _ _ _ (e.grow g1 w1) h _ fun I2 H2 g2 w2 => q _ _ (g1.tr w1 g2) w2
  | false => cases h; exact q _ _ g1 w1
theorem sn_or (ha : SndT K tA bA) (hb : SndT K tB' bB) : SndT K (tOr tA tB') (dOr bA bB) := fun c I H σ ρ s b s' e h Q q => by
  obtain ⟨⟨x, s1⟩, h1, h⟩ := bind_some_of h
  refine ha _ _ _ _ _ _ _ _ e h1 _ fun I1 H1 g1 w1 => ?_
  cases x with
  | true => cases h; exact q _ _ g1 w1
  | false => exact hb _ _ _ _ _ _ _ _ (e.grow g1 w1) h _ fun I2 H2 g2 w2 => q _ _ (g1.tr w1 g2) w2
theorem sn_not (ha : SndT K tA bA) : SndT K (tNot tA) (dNot bA) := fun c I H σ ρ s b s' e h Q q => by
  obtain ⟨⟨x, s1⟩, h1, h⟩ := map_some_of h
  cases h
  exact ha _ _ _ _ _ _ _ _ e h1 _ fun I1 H1 g1 w1 => q _ _ g1 w1
theorem sn_andV (ha : SndE K ta da) (hb : SndE K tb db) : SndE K (tAndV ta tb) (dAndV da db) := fun c I H σ ρ s b s' e h Q q => by
  obtain ⟨⟨x, s1⟩, h1, h⟩ := bind_some_of h
  refine ha _ _ _ _ _ _ _ _ e h1 _ fun v I1 H1 g1 w1 r1 => ?_
  cases r1 with
  | bl k =>
    cases k with
    | true => exact ⟨_, rfl, hb _ _ _ _ _ _ _ _ (e.grow g1 w1) h _ fun v I2 H2 g2 w2 r2 => q _ _ _ (g1.tr w1 g2) w2 r2⟩
    | false => cases h; exact ⟨_, rfl, q _ _ _ g1 w1 (.bl _)⟩
  | _ => cases h
theorem sn_orV (ha : SndE K ta da) (hb : SndE K tb db) : SndE K (tOrV ta tb) (dOrV da db) := fun c I H σ ρ s b s' e h Q q => by
  obtain ⟨⟨x, s1⟩, h1, h⟩ := bind_some_of h
  refine ha _ _ _ _ _ _ _ _ e h1 _ fun v I1 H1 g1 w1 r1 => ?_
  cases r1 with
  | bl k =>
    cases k with
    | false => exact ⟨_, rfl, hb _ _ _ _ _ _ _ _ (e.grow g1 w1) h _ fun v I2 H2 g2 w2 r2 => q _ _ _ (g1.tr w1 g2) w2 r2⟩
    | true => cases h; exact ⟨_, rfl, q _ _ _ g1 w1 (.bl _)⟩
  | _ => cases h
theorem sn_notV (ha : SndE K ta da) : SndE K (tNotV ta) (dNotV da) := fun c I H σ ρ s b s' e h Q q => by
  obtain ⟨⟨x, s1⟩, h1, h⟩ := bind_some_of h
  refine ha _ _ _ _ _ _ _ _ e h1 _ fun v I1 H1 g1 w1 r1 => ?_
  cases r1 with
  | bl k => cases h; exact ⟨_, rfl, q _ _ _ g1 w1 (.bl _)⟩
  | _ => cases h
theorem sn_if (ht : SndT K tA bA) (ha : SndE K ta da) (hb : SndE K tb db) : SndE K (tIf tA ta tb) (dIf bA da db) := fun c I H σ ρ s b s' e h Q q => by
  obtain ⟨⟨x, s1⟩, h1, h⟩ := bind_some_of h
  refine ht _ _ _ _ _ _ _ _ e h1 _ fun I1 H1 g1 w1 => ?_
  cases x with
  | true => exact ha _ _ _ _ _ _ _ _ (e.grow g1 w1) h _ fun v I2 H2 g2 w2 r2 => q _ _ _ (g1.tr w1 g2) w2 r2
  | false => exact hb _ _ _ _ _ _ _ _ (e.grow g1 w1) h _ fun v I2 H2 g2 w2 r2 => q _ _ _ (g1.tr w1 g2) w2 r2
theorem sn_chain {r r' : R2} {f g : D → D → Option D} (ha : SndE K ta da) (hb : SndE K tb db) (hc : SndE K tc dc) (hr : Snd2 K r f) (hr' : Snd2 K r' g) : SndE K (tChain r r' ta tb tc) (dChain f g da db dc) := fun c I H σ ρ s d s' e h Q q => by
  obtain ⟨⟨x, s1⟩, h1, h⟩ := bind_some_of h
  obtain ⟨⟨y, s2⟩, h2, h⟩ := bind_some_of h
  obtain ⟨z, h3, h⟩ := bind_some_of h
  refine ha _ _ _ _ _ _ _ _ e h1 _ fun v I1 H1 g1 w1 r1 => ?_
  refine hb _ _ _ _ _ _ _ _ (e.grow g1 w1) h2 _ fun u I2 H2 g2 w2 r2 => ?_
  refine hr _ _ _ _ _ _ _ _ g2.s2 (r1.mono g2.s1) r2 h3 _ fun t I3 H3 g3 r3 => ?_
  have gg := (g1.tr w1 g2).tr w2 (g3.up (c := c))
  have w3 := w2.gr g3
  cases r3 with
  | bl k =>
    cases k with
    | true =>
      obtain ⟨⟨y3, s3⟩, h4, h⟩ := bind_some_of h
      obtain ⟨z, h5, h⟩ := map_some_of h
      cases h
      refine ⟨_, rfl, ?_⟩
      refine hc _ _ _ _ _ _ _ _ (e.grow gg w3) h4 _ fun u I4 H4 g4 w4 r4 => ?_
      refine hr' _ _ _ _ _ _ _ _ g4.s2 ((r2.mono g3.s1).mono g4.s1) r4 h5 _ fun t I5 H5 g5 r5 => ?_
      exact q t I5 H5 ((gg.tr w3 g4).tr w4 g5.up) (w4.gr g5) r5
    | false => cases h; exact ⟨_, rfl, q _ _ _ gg w3 (.bl _)⟩
  | _ => cases h
theorem sn_part (ha : SndE K ta da) : SndO K (tPart ta) (dSome da) := fun c I H σ ρ s d s' e h Q q => by
  obtain ⟨⟨x, s1⟩, h1, h⟩ := bind_some_of h
  refine ha _ _ _ _ _ _ _ _ e h1 _ fun v I1 H1 g1 w1 r1 => ?_
  cases r1 with
  | int k => cases h; exact ⟨_, rfl, q _ _ g1 w1⟩
  | _ => cases h
theorem sn_nopart : SndO K tNoPart dNone := fun c I H σ ρ s d s' e h Q q => by
  cases h
  exact q _ _ (.refl e.sub) e.w
theorem sn_sl {r : V → Option Int → Option Int → Hp → VK → Prop} {f : D → Option Int → Option Int → Option D} {tl th : TO} {dl dh : Do} (ha : SndE K ta da) (hl : SndO K tl dl) (hh : SndO K th dh) (hr : SndSl K r f) : SndE K (tSl r ta tl th) (dSl f da dl dh) := fun c I H σ ρ s d s' e h Q q => by
  obtain ⟨⟨x, s1⟩, h1, h⟩ := bind_some_of h
  obtain ⟨⟨l, s2⟩, h2, h⟩ := bind_some_of h
  obtain ⟨⟨u, s3⟩, h3, h⟩ := bind_some_of h
  obtain ⟨z, h4, h⟩ := map_some_of h
  cases h
  refine ha _ _ _ _ _ _ _ _ e h1 _ fun v I1 H1 g1 w1 r1 => ?_
  refine hl _ _ _ _ _ _ _ _ (e.grow g1 w1) h2 _ fun I2 H2 g2 w2 => ?_
  have g12 := g1.tr w1 g2
  refine hh _ _ _ _ _ _ _ _ (e.grow g12 w2) h3 _ fun I3 H3 g3 w3 => ?_
  refine hr _ _ _ _ _ _ _ _ g3.s2 ((r1.mono g2.s1).mono g3.s1) h4 _ fun t I5 H5 g5 r5 => ?_
  exact q t I5 H5 ((g12.tr w2 g3).tr w3 g5.up) (w3.gr g5) r5
end
end Dl
end
section
set_option Elab.async false
set_option linter.all false
set_option maxRecDepth 100000
set_option maxHeartbeats 4000000
namespace Dl
open PySem PySem.Spec PyProof.Rows L2 StX

/-! statements -/
inductive Rs where
  | nx (ρ : List Sl) | rt (d : D) (own : Bool) | bk (ρ : List Sl) | ct (ρ : List Sl)
abbrev Ds := List Sl → Tau → Option (Rs × Tau)
structure EnvS (K : PySem.W.Frag) (c : Option Addr) (I0 H0 I H : Hp) (σ : L2.St) (ρ : List Sl) (s : Tau) : Prop where
  env : Ec K c I H σ ρ s
  s0 : Sb I0 I
  kp : Kp c H0 H
  nw : ∀ a, I a ≠ none → I0 a ≠ none ∨ H0 a = none
  fr : ∀ (i : Nat) (p : Addr) (d : D), σ[i]? = some (some (V.ref p)) → ρ[i]? = some (Sl.ow d) → H0 p = none
  nc : ∀ r, c = some r → H0 r ≠ none
section
variable {K : PySem.W.Frag} {c : Option Addr} {I0 H0 I H I' H' I1 H1 : Hp} {σ : L2.St} {ρ : List Sl} {s s1 : Tau}
theorem EnvS.old (e : EnvS K c I0 H0 I H σ ρ s) {a : Addr} (h : H a = none) : H0 a = none := by
  cases q : H0 a with
  | none => rfl
  | some o =>
    by_cases z : c = some a
    · obtain ⟨_, sc, w, _⟩ := e.env.w a z
      rw [h] at w; cases w
    · rw [e.kp a o z q] at h; cases h
theorem EnvS.grow (e : EnvS K c I0 H0 I H σ ρ s) (g : Gr c I H I' H') (w : DW K c s1 I' H') : EnvS K c I0 H0 I' H' σ ρ s1 :=
  ⟨e.env.grow g w, e.s0.trans g.s1, e.kp.trans g.kp, fun a h => by
    rcases g.nw a h with z | z
    · exact e.nw a z
    · exact .inr (e.old z), e.fr, e.nc⟩
/-- more known at the start -/
theorem EnvS.reb (e : EnvS K c I0 H0 I H σ ρ s) (s0 : Sb I0 I1) (sb : Sb I1 I) : EnvS K c I1 H0 I H σ ρ s :=
  ⟨e.env, sb, e.kp, fun a h => (e.nw a h).imp (fun z => by
    cases q : I0 a with
    | none => exact absurd q z
    | some o => rw [s0 a o q]; simp) id, e.fr, e.nc⟩
theorem EnvS.back (e : EnvS K c I1 H0 I H σ ρ s) (s0 : Sb I0 I1) (n : ∀ a, I1 a ≠ none → I0 a ≠ none ∨ H0 a = none) : EnvS K c I0 H0 I H σ ρ s :=
  ⟨e.env, s0.trans e.s0, e.kp, fun a h => (e.nw a h).elim (n a) .inr, e.fr, e.nc⟩
theorem Gr.back (e : Gr c I1 H0 I H) (s0 : Sb I0 I1) (n : ∀ a, I1 a ≠ none → I0 a ≠ none ∨ H0 a = none) : Gr c I0 H0 I H :=
  ⟨s0.trans e.s1, e.s2, e.kp, fun a h => (e.nw a h).elim (n a) .inr⟩
theorem EnvS.gr (e : EnvS K c I0 H0 I H σ ρ s) : Gr c I0 H0 I H := ⟨e.s0, e.env.sub, e.kp, e.nw⟩
end

def Fin (K : PySem.W.Frag) (c : Option Addr) (I0 H0 : Hp) (s : Tau) (D : Ends) : Rs → Prop
  | .nx ρ => ∀ σ I H, EnvS K c I0 H0 I H σ ρ s → D.nx σ H
  | .rt d false => ∀ v I H, Gr c I0 H0 I H → DW K c s I H → Rep K c I v d → D.rt v H
  | .rt d true => ∀ p I H, Gr c I0 H0 I H → DW K c s I H → OwOk K c I H p d → H0 p = none → D.rt (.ref p) H
  | .bk ρ => ∀ σ I H, EnvS K c I0 H0 I H σ ρ s → D.bk σ H
  | .ct ρ => ∀ σ I H, EnvS K c I0 H0 I H σ ρ s → D.ct σ H
def SndS (K : PySem.W.Frag) (ts : TS) (dn : Ds) : Prop := ∀ c I0 H0 I H σ ρ s o s', EnvS K c I0 H0 I H σ ρ s → dn ρ s = some (o, s') →
  ∀ D : Ends, Fin K c I0 H0 s' D o → ts D σ H
/-- targets: js the slots that are stored -/
abbrev Dg := D → List Sl → Option (List Sl)
def SndG (K : PySem.W.Frag) (g : TG) (dg : Dg) (js : List Nat) : Prop := ∀ c I H v d σ ρ s ρ', Ec K c I H σ ρ s → Rep K c I v d → dg d ρ = some ρ' →
  ∀ Q : L2.St → Hp → Prop, (∀ σ', Ec K c I H σ' ρ' s → σ'.length = σ.length → (∀ k, k ∉ js → σ'[k]? = σ[k]?) → (∀ (i : Nat) (p : Addr) (d : D), σ'[i]? = some (some (V.ref p)) → ρ'[i]? = some (Sl.ow d) → σ[i]? = some (some (V.ref p)) ∧ ρ[i]? = some (Sl.ow d)) → Q σ' H) → g v σ H Q
/-- what is walked -/
def Yl (K : PySem.W.Frag) (c : Option Addr) (J : It) (I : Hp) (xs : List D) : Prop := ∀ I2 H2, Sb I I2 → Sub I2 H2 →
  (∀ (i : Nat) (d : D), xs[i]? = some d → J.go i H2 ∧ ∀ x H3, J.yld i H2 x H3 → ∃ I3, Gr none I2 H2 I3 H3 ∧ Rep K c I3 x d) ∧ J.stop xs.length H2
def SndI (K : PySem.W.Frag) (wi : TI) (dn : Da) : Prop := ∀ c I H σ ρ s xs s', Ec K c I H σ ρ s → dn ρ s = some (xs, s') →
  ∀ R : It → Hp → Prop, (∀ J I' H', Gr c I H I' H' → DW K c s' I' H' → Yl K c J I' xs → R J H') → wi σ H R
structure ES (X : Cx) (st : Stmt) (ts : TS) (dn : Ds) : Prop where
  p : PS X st ts
  s : SndS X.K ts dn
structure ESs (X : Cx) (st : List Stmt) (ts : TS) (dn : Ds) : Prop where
  p : PSs X st ts
  s : SndS X.K ts dn
structure EG (X : Cx) (e : Expr) (g : TG) (dg : Dg) (js : List Nat) : Prop where
  p : PG X e g
  s : SndG X.K g dg js
structure EGs (X : Cx) (e : List Expr) (g : TGs) (dg : List D → List Sl → Option (List Sl)) (js : List Nat) : Prop where
  p : PGs X e g
  s : ∀ c I H vs ds σ ρ s ρ', Ec X.K c I H σ ρ s → RepL X.K c I vs ds → dg ds ρ = some ρ' →
    ∀ Q : L2.St → Hp → Prop, (∀ σ', Ec X.K c I H σ' ρ' s → σ'.length = σ.length → (∀ k, k ∉ js → σ'[k]? = σ[k]?) → (∀ (i : Nat) (p : Addr) (d : D), σ'[i]? = some (some (V.ref p)) → ρ'[i]? = some (Sl.ow d) → σ[i]? = some (some (V.ref p)) ∧ ρ[i]? = some (Sl.ow d)) → Q σ' H) → g vs σ H Q
structure EI (X : Cx) (tg iter : Expr) (wi : TI) (dn : Da) : Prop where
  p : PI X tg iter wi
  s : SndI X.K wi dn

def dNext : Ds := fun ρ s => some (.nx ρ, s)
def dSeq (a b : Ds) : Ds := fun ρ s => (a ρ s).bind fun p => match p.1 with
  | .nx ρ' => b ρ' p.2
  | o => some (o, p.2)
def dDrop (a : Dn) : Ds := fun ρ s => (a ρ s).map fun p => (.nx ρ, p.2)
def dRet (a : Dn) : Ds := fun ρ s => (a ρ s).map fun p => (.rt p.1 false, p.2)
def dRetN : Ds := fun ρ s => some (.rt .non false, s)
def dIfS (t : Dt) (a b : Ds) : Ds := fun ρ s => (t ρ s).bind fun p => if p.1 = true then a ρ p.2 else b ρ p.2
def dBrk : Ds := fun ρ s => some (.bk ρ, s)
def dCnt : Ds := fun ρ s => some (.ct ρ, s)
def dNever : Ds := fun _ _ => none
def dAsg (a : Dn) (g : Dg) : Ds := fun ρ s => (a ρ s).bind fun p => (g p.1 ρ).map fun ρ' => (.nx ρ', p.2)
def gdName (i : Nat) : Dg := fun d ρ => some (ρ.set i (.im d))
def gdNil : List D → List Sl → Option (List Sl) := fun ds ρ => match ds with
  | [] => some ρ
  | _ => none
def gdCons (g : Dg) (r : List D → List Sl → Option (List Sl)) : List D → List Sl → Option (List Sl) := fun ds ρ => match ds with
  | d :: ds => (g d ρ).bind (r ds)
  | [] => none
def gdTup (n : Nat) (r : List D → List Sl → Option (List Sl)) : Dg := fun d ρ => d.asT.bind fun ds => if ds.length = n then r ds ρ else none
/-- a loop over data -/
def dLoop (g : Dg) (b : Ds) : List D → Ds
  | [] => fun ρ s => some (.nx ρ, s)
  | x :: xs => fun ρ s => (g x ρ).bind fun ρ1 => (b ρ1 s).bind fun p => match p.1 with
    | .nx ρ2 => dLoop g b xs ρ2 p.2
    | .ct ρ2 => dLoop g b xs ρ2 p.2
    | .bk ρ2 => some (.nx ρ2, p.2)
    | .rt d o => some (.rt d o, p.2)
def dFor (it : Da) (g : Dg) (b : Ds) : Ds := fun ρ s => (it ρ s).bind fun p => dLoop g b p.1 ρ p.2

section
variable {K : PySem.W.Frag} {te : TE} {da : Dn} {tt : TT} {bt : Dt} {t u : TS} {a b : Ds} {g : TG} {dg : Dg} {js : List Nat}
theorem ss_next : SndS K tNext dNext := fun c I0 H0 I H σ ρ s o s' e h D q => by
  cases h
  exact q σ I H e
theorem ss_never : SndS K tNever dNever := fun c I0 H0 I H σ ρ s o s' e h D q => by cases h
theorem ss_seq (h1 : SndS K t a) (h2 : SndS K u b) : SndS K (tSeq t u) (dSeq a b) := fun c I0 H0 I H σ ρ s o s' e h D q => by
  obtain ⟨⟨x, s1⟩, ha, h⟩ := bind_some_of h
  refine h1 _ _ _ _ _ _ _ _ _ _ e ha _ ?_
  cases x with
  | nx ρ' => exact fun σ' I' H' e' => h2 _ _ _ _ _ _ _ _ _ _ e' h D q
  | rt d k => cases h; cases k <;> exact q
  | bk ρ' => cases h; exact q
  | ct ρ' => cases h; exact q
theorem ss_drop (h1 : SndE K te da) : SndS K (tDrop te) (dDrop da) := fun c I0 H0 I H σ ρ s o s' e h D q => by
  obtain ⟨⟨x, s1⟩, ha, h⟩ := map_some_of h
  cases h
  exact h1 _ _ _ _ _ _ _ _ e.env ha _ fun v I1 H1 g1 w1 r1 => q σ I1 H1 (e.grow g1 w1)
theorem ss_ret (h1 : SndE K te da) : SndS K (tRet te) (dRet da) := fun c I0 H0 I H σ ρ s o s' e h D q => by
  obtain ⟨⟨x, s1⟩, ha, h⟩ := map_some_of h
  cases h
  exact h1 _ _ _ _ _ _ _ _ e.env ha _ fun v I1 H1 g1 w1 r1 => q v I1 H1 (e.grow g1 w1).gr w1 r1
theorem ss_retN : SndS K tRetN dRetN := fun c I0 H0 I H σ ρ s o s' e h D q => by
  cases h
  exact q .non I H e.gr e.env.w .non
theorem ss_if (ht : SndT K tt bt) (h1 : SndS K t a) (h2 : SndS K u b) : SndS K (tIfS tt t u) (dIfS bt a b) := fun c I0 H0 I H σ ρ s o s' e h D q => by
  obtain ⟨⟨x, s1⟩, ha, h⟩ := bind_some_of h
  refine ht _ _ _ _ _ _ _ _ e.env ha _ fun I1 H1 g1 w1 => ?_
  cases x with
  | true => exact h1 _ _ _ _ _ _ _ _ _ _ (e.grow g1 w1) h D q
  | false => exact h2 _ _ _ _ _ _ _ _ _ _ (e.grow g1 w1) h D q
theorem ss_brk : SndS K tBreak dBrk := fun c I0 H0 I H σ ρ s o s' e h D q => by
  cases h
  exact q σ I H e
theorem ss_cnt : SndS K tCont dCnt := fun c I0 H0 I H σ ρ s o s' e h D q => by
  cases h
  exact q σ I H e
theorem ss_asg (h1 : SndE K te da) (hg : SndG K g dg js) : SndS K (tAsg te g) (dAsg da dg) := fun c I0 H0 I H σ ρ s o s' e h D q => by
  obtain ⟨⟨x, s1⟩, ha, h⟩ := bind_some_of h
  obtain ⟨ρ', hb, h⟩ := map_some_of h
  cases h
  refine h1 _ _ _ _ _ _ _ _ e.env ha _ fun v I1 H1 g1 w1 r1 => ?_
  have e1 := e.grow g1 w1
  exact hg _ _ _ _ _ _ _ _ _ e1.env r1 hb _ fun σ' e2 _ _ u => q σ' I1 H1 ⟨e2, e1.s0, e1.kp, e1.nw, fun i p d x y => by
    obtain ⟨x', y'⟩ := u i p d x y
    exact e1.fr i p d x' y', e1.nc⟩
theorem sg_name (i : Nat) : SndG K (gName i) (gdName i) [i] := fun c I H v d σ ρ s ρ' e r h Q q => by
  cases h
  refine q _ (e.setI r i) (by simp) (fun k hk => ?_) fun j p d' h1 h2 => ?_
  · rw [List.getElem?_set_ne (fun z => hk (by simp [z]))]
  · by_cases z : i = j
    · subst z
      rw [List.getElem?_set] at h2
      simp only [if_true] at h2
      split at h2
      · cases h2
      · cases h2
    · rw [List.getElem?_set_ne z] at h1 h2
      exact ⟨h1, h2⟩
theorem sg_tup {n : Nat} {gs : TGs} {dgs : List D → List Sl → Option (List Sl)}
    (hs : ∀ c I H vs ds σ ρ s ρ', Ec K c I H σ ρ s → RepL K c I vs ds → dgs ds ρ = some ρ' →
    ∀ Q : L2.St → Hp → Prop, (∀ σ', Ec K c I H σ' ρ' s → σ'.length = σ.length → (∀ k, k ∉ js → σ'[k]? = σ[k]?) → (∀ (i : Nat) (p : Addr) (d : D), σ'[i]? = some (some (V.ref p)) → ρ'[i]? = some (Sl.ow d) → σ[i]? = some (some (V.ref p)) ∧ ρ[i]? = some (Sl.ow d)) → Q σ' H) → gs vs σ H Q) :
    SndG K (gTup K n gs) (gdTup n dgs) js := fun c I H v d σ ρ s ρ' e r h Q q => by
  obtain ⟨ds, h1, h⟩ := bind_some_of h
  split at h
  · rename_i hl
    obtain ⟨a, xs, rfl, hx, hr⟩ := r.asT h1
    exact ⟨a, xs, rfl, e.sub.sqT hx, by rw [hr.length]; exact hl, hs _ _ _ _ _ _ _ _ _ e hr h Q q⟩
  · cases h
end

section
variable {X : Cx} {e e1 e2 : Expr} {te : TE} {da : Dn} {g : TG} {dg : Dg} {js : List Nat} {pos : Pos}
theorem eg_name {i : Nat} {x : Str} (hN : X.N.Nodup) (hi : X.N[i]? = some x) (hx : Loc X.env.scope x) (hf : X.fn x = true ∨ X.env.scope.names.lookup x = some .local := by first | exact .inl rfl | exact .inr rfl | assumption) : EG X (.Name x pos) (gName i) (gdName i) [i] :=
  ⟨pg_name hN hi hx hf, sg_name i⟩
theorem egs_nil : EGs X [] gNil gdNil [] := ⟨pgs_nil, fun c I H vs ds σ ρ s ρ' e r h Q q => by
  cases r with
  | nil =>
    cases h
    exact ⟨rfl, q σ e rfl (fun _ _ => rfl) fun _ _ _ a b => ⟨a, b⟩⟩
  | cons _ _ => cases h⟩
theorem egs_cons {es : List Expr} {gs : TGs} {dgs : List D → List Sl → Option (List Sl)} {ks : List Nat} (h1 : EG X e g dg js) (h2 : EGs X es gs dgs ks)
    (hs : (assignEach (e :: es) X.env).map (fun z => z.2) = assign e X.env :: (assignEach es X.env).map (fun z => z.2) := by rfl) : EGs X (e :: es) (gCons g gs) (gdCons dg dgs) (js ++ ks) :=
  ⟨pgs_cons h1.p h2.p hs, fun c I H vs ds σ ρ s ρ' e r h Q q => by
    cases r with
    | nil => cases h
    | @cons v d vs ds rv rr =>
      obtain ⟨ρ1, ha, h⟩ := bind_some_of h
      refine ⟨v, vs, rfl, h1.s _ _ _ _ _ _ _ _ _ e rv ha _ fun σ1 e1 l1 k1 u1 => ?_⟩
      refine h2.s _ _ _ _ _ _ _ _ _ e1 rr h _ fun σ2 e2 l2 k2 u2 => ?_
      refine q σ2 e2 (l2.trans l1) (fun k hk => ?_) fun i p d a b => ?_
      · rw [List.mem_append, not_or] at hk
        rw [k2 k hk.2, k1 k hk.1]
      · obtain ⟨a, b⟩ := u2 i p d a b
        exact u1 i p d a b⟩
theorem eg_tup {es : List Expr} {k : Nat} {gs : TGs} {n : Nat} {dgs : List D → List Sl → Option (List Sl)} (hc : X.calm = true) (h : EGs X es gs dgs js) (hn : (assignEach es X.env).length = n := by rfl)
    (hst : (assignEach es X.env).findIdx? (fun z => z.1) = none := by rfl) : EG X (.Tuple es k pos) (gTup X.K n gs) (gdTup n dgs) js :=
  ⟨pg_tup hc h.p hn hst, sg_tup h.s⟩
end

/-! loops -/
section
variable {K : PySem.W.Frag} {wi : TI} {di : Da} {t : TS} {b : Ds} {g : TG} {dg : Dg} {js : List Nat}
theorem ss_for (hi : SndI K wi di) (hg : SndG K g dg js) (hb : SndS K t b) : SndS K (tFor wi g t) (dFor di dg b) := fun c I0 H0 I H σ ρ s o s' e h D q => by
  obtain ⟨⟨xs, s1⟩, ha, h⟩ := bind_some_of h
  refine hi _ _ _ _ _ _ _ _ e.env ha _ fun J I1 H1 g1 w1 yl => ?_
  refine ⟨fun i m σ' H' => m = xs.length - i ∧ i ≤ xs.length ∧ ∃ I' ρ' s2, EnvS K c I0 H0 I' H' σ' ρ' s2 ∧ Sb I1 I' ∧ dLoop dg b (xs.drop i) ρ' s2 = some (o, s'),
    ⟨xs.length, by simp, Nat.zero_le _, I1, ρ, s1, e.grow g1 w1, .refl _, by simpa using h⟩, ?_⟩
  rintro i m σ' H' ⟨rfl, hle, I', ρ', s2, e', sb, hl⟩
  obtain ⟨y1, y2⟩ := yl I' H' sb e'.env.sub
  by_cases hlt : i < xs.length
  · obtain ⟨go, yld⟩ := y1 i xs[i] (List.getElem?_eq_getElem hlt)
    rw [List.drop_eq_getElem_cons hlt] at hl
    obtain ⟨ρ1, hx, hl⟩ := bind_some_of hl
    obtain ⟨⟨r, s3⟩, hbd, hl⟩ := bind_some_of hl
    refine .inr ⟨go, fun σ2 H2 => ∃ I2 ρ2 s4, EnvS K c I0 H0 I2 H2 σ2 ρ2 s4 ∧ Sb I1 I2 ∧ dLoop dg b (xs.drop (i + 1)) ρ2 s4 = some (o, s'), fun σ2 H2 ⟨I2, ρ2, s4, z1, z2, z3⟩ => ⟨xs.length - (i + 1), by omega, rfl, hlt, I2, ρ2, s4, z1, z2, z3⟩, fun x H3 hy => ?_⟩
    obtain ⟨I3, g3, r3⟩ := yld x H3 hy
    have w3 := e'.env.w.gr g3
    have e3 := e'.grow g3.up w3
    refine hg _ _ _ _ _ _ _ _ _ e3.env r3 hx _ fun σ4 e4 _ _ u4 => ?_
    have e5 : EnvS K c I0 H0 I3 H3 σ4 ρ1 s2 := ⟨e4, e3.s0, e3.kp, e3.nw, fun j p d a b => by
      obtain ⟨a, b⟩ := u4 j p d a b
      exact e3.fr j p d a b, e3.nc⟩
    have e1 := e.grow g1 w1
    refine hb _ _ _ _ _ _ _ _ _ _ (e5.reb e1.s0 (sb.trans g3.s1)) hbd _ ?_
    cases r with
    | nx ρ2 => exact fun σ6 I6 H6 e6 => ⟨I6, ρ2, s3, e6.back e1.s0 e1.nw, e6.s0, hl⟩
    | ct ρ2 => exact fun σ6 I6 H6 e6 => ⟨I6, ρ2, s3, e6.back e1.s0 e1.nw, e6.s0, hl⟩
    | bk ρ2 => cases hl; exact fun σ6 I6 H6 e6 => q σ6 I6 H6 (e6.back e1.s0 e1.nw)
    | rt d k =>
      cases hl
      cases k with
      | false => exact fun v I6 H6 g6 w6 r6 => q v I6 H6 (g6.back e1.s0 e1.nw) w6 r6
      | true => exact fun v I6 H6 g6 w6 r6 => q v I6 H6 (g6.back e1.s0 e1.nw) w6 r6
  · have ei : i = xs.length := by omega
    subst ei
    rw [List.drop_length] at hl
    cases hl
    exact .inl ⟨y2, q _ _ _ e'⟩
end
end Dl
end
section
set_option Elab.async false
set_option linter.all false
set_option maxRecDepth 100000
set_option maxHeartbeats 4000000
namespace Dl
open PySem PySem.Spec PyProof.Rows L2 StX

/-! data compared: as the library does -/
mutual
def D.conv : D → Option PyData
  | .non => some .none
  | .bl b => some (.bool b)
  | .int i => some (.int i)
  | .str x => some (.str x)
  | .tup xs => (convL xs).map .tuple
  | .ktp xs => (convL xs).map .tuple
  | .lst xs => (convL xs).map .list
  | .dS _ => none
  | .dT _ => none
  | .sl _ => none
  | .rw => none
  | .fn _ => none
termination_by structural d => d
def convL : List D → Option (List PyData)
  | [] => some []
  | x :: xs => x.conv.bind fun y => (convL xs).map fun ys => y :: ys
termination_by structural d => d
end
section
variable {K : PySem.W.Frag} {c : Option Addr} {I H : Hp}
mutual
theorem Rep.dp (s : Sub I H) : ∀ {v : V} {d : D} {p : PyData}, Rep K c I v d → d.conv = some p → Dp K H v p
  | _, _, _, .non, e => by cases e; exact .non
  | _, _, _, .bl b, e => by cases e; exact .bl b
  | _, _, _, .int b, e => by cases e; exact .int b
  | _, _, _, .str b, e => by cases e; exact .str b
  | _, _, _, .tup h _ r, e => by
    obtain ⟨x, h1, rfl⟩ := map_some_of e
    exact .tup (.inl (s.rdT (.inr ⟨_, h⟩))) (RepL.dp s r h1)
  | _, _, _, .ktp h r, e => by
    obtain ⟨x, h1, rfl⟩ := map_some_of e
    exact .tup (s.sqT h) (RepL.dp s r h1)
  | _, _, _, .lst h r, e => by
    obtain ⟨x, h1, rfl⟩ := map_some_of e
    exact .lst (.of (s.lst h)) (RepL.dp s r h1)
  | _, _, _, .dS _ _, e => by cases e
  | _, _, _, .dT _ _, e => by cases e
  | _, _, _, .sl _, e => by cases e
  | _, _, _, .rw _, e => by cases e
  | _, _, _, .fn _, e => by cases e
theorem RepL.dp (s : Sub I H) : ∀ {v : List V} {d : List D} {p : List PyData}, RepL K c I v d → convL d = some p → DpAll K H v p
  | _, _, _, .nil, e => by cases e; exact .nil
  | _, _, _, .cons a r, e => by
    obtain ⟨y, h1, e⟩ := bind_some_of e
    obtain ⟨ys, h2, rfl⟩ := map_some_of e
    exact .cons (Rep.dp s a h1) (RepL.dp s r h2)
end
end
def eqB (d e : D) : Option Bool := d.conv.bind fun x => e.conv.bind fun y => if (SeqAt.shaped x && SeqAt.shaped y) = true then some (PyData.eqv x y) else none
def eqD (d e : D) : Option D := (eqB d e).map .bl
def neD (d e : D) : Option D := (eqB d e).map fun b => .bl (!b)
def inB (d e : D) : Option Bool := d.conv.bind fun x => e.its.bind fun es => (convL es).bind fun ys => if (SeqAt.shaped x && SeqAt.shaped (.list ys) && SeqAt.shaped (.tuple ys)) = true then some (ys.any fun z => PyData.eqv z x) else none
def inD (d e : D) : Option D := (inB d e).map .bl
def ninD (d e : D) : Option D := (inB d e).map fun b => .bl (!b)
theorem s2_eq {K : PySem.W.Frag} : Snd2 K (rEqD K) eqD := fun c I H x y d e z s rx ry h Q q => by
  obtain ⟨b, h0, rfl⟩ := map_some_of h
  obtain ⟨p1, h1, h⟩ := bind_some_of h0
  obtain ⟨p2, h2, h⟩ := bind_some_of h
  split at h
  · rename_i hs
    cases h
    rw [Bool.and_eq_true] at hs
    exact ⟨p1, p2, rx.dp s h1, ry.dp s h2, hs.1, hs.2, q.val s (.bl _)⟩
  · cases h
theorem s2_ne {K : PySem.W.Frag} : Snd2 K (rNeD K) neD := fun c I H x y d e z s rx ry h Q q => by
  obtain ⟨b, h0, rfl⟩ := map_some_of h
  obtain ⟨p1, h1, h⟩ := bind_some_of h0
  obtain ⟨p2, h2, h⟩ := bind_some_of h
  split at h
  · rename_i hs
    cases h
    rw [Bool.and_eq_true] at hs
    exact ⟨p1, p2, rx.dp s h1, ry.dp s h2, hs.1, hs.2, q.val s (.bl _)⟩
  · cases h
/-- in, not in: a list or a tuple of data -/
def rInA (K : PySem.W.Frag) (neg : Bool) : R2 := fun x y H Q => ∃ d ds, Dp K H x d ∧ (Dp K H y (.list ds) ∨ Dp K H y (.tuple ds)) ∧ SeqAt.shaped d = true ∧ SeqAt.shaped (.list ds) = true ∧ SeqAt.shaped (.tuple ds) = true ∧
  Q (.bl (if neg = true then !ds.any fun z => PyData.eqv z d else ds.any fun z => PyData.eqv z d)) H
section
variable {X : Cx}
theorem tup_room {A : Around} {d : PyData} {ds : List PyData} (h : SeqAt.shaped d = true) (hu : A.units + 65 < cLine) : A.units + 1 + min (PyData.depthAll ds) d.depth < cLine := by
  have h1 := SeqAt.depth_of_shaped h
  have h2 : min (PyData.depthAll ds) d.depth ≤ d.depth := Nat.min_le_right _ _
  omega
theorem op_inA (hu : X.A.units + 65 < cLine) : OpR X (compareOp .In) (rInA X.K false) := by
  intro pins s σ H x y v u Q I rx ry h
  obtain ⟨d, ds, hd, he, sd, sl, st, q⟩ := h
  obtain ⟨as, r1⟩ := Dp.reads I d x v hd rx
  rcases he with he | he
  · obtain ⟨bs, r2⟩ := Dp.reads I (.list ds) y u he ry
    exact SeqAt.in_list_reads r2 r1 (SeqAt.canLay_of_shaped sl) (SeqAt.canLay_of_shaped sd) (tup_room sd hu) ⟨.bl _, H, I, rfl, q⟩
  · obtain ⟨bs, r2⟩ := Dp.reads I (.tuple ds) y u he ry
    exact SeqAt.in_tuple_reads r2 r1 (SeqAt.canLay_of_shaped st) (SeqAt.canLay_of_shaped sd) (tup_room sd hu) ⟨.bl _, H, I, rfl, q⟩
theorem op_ninA (hu : X.A.units + 65 < cLine) : OpR X (compareOp .NotIn) (rInA X.K true) := by
  intro pins s σ H x y v u Q I rx ry h
  obtain ⟨d, ds, hd, he, sd, sl, st, q⟩ := h
  obtain ⟨as, r1⟩ := Dp.reads I d x v hd rx
  rcases he with he | he
  · obtain ⟨bs, r2⟩ := Dp.reads I (.list ds) y u he ry
    exact SeqAt.notIn_list_reads r2 r1 (SeqAt.canLay_of_shaped sl) (SeqAt.canLay_of_shaped sd) (tup_room sd hu) ⟨.bl _, H, I, rfl, q⟩
  · obtain ⟨bs, r2⟩ := Dp.reads I (.tuple ds) y u he ry
    exact SeqAt.notIn_tuple_reads r2 r1 (SeqAt.canLay_of_shaped st) (SeqAt.canLay_of_shaped sd) (tup_room sd hu) ⟨.bl _, H, I, rfl, q⟩
end
theorem Rep.its_dp {K : PySem.W.Frag} {c : Option Addr} {I H : Hp} {v : V} {d : D} {ds : List D} {ps : List PyData} (s : Sub I H) (h : Rep K c I v d) (e : d.its = some ds) (e2 : convL ds = some ps) : Dp K H v (.list ps) ∨ Dp K H v (.tuple ps) := by
  cases h with
  | tup h z r => cases e; exact .inr (.tup (.inl (s.rdT (.inr ⟨_, h⟩))) (RepL.dp s r e2))
  | ktp h r => cases e; exact .inr (.tup (s.sqT h) (RepL.dp s r e2))
  | lst h r => cases e; exact .inl (.lst (.of (s.lst h)) (RepL.dp s r e2))
  | _ => cases e
theorem s2_in {K : PySem.W.Frag} : Snd2 K (rInA K false) inD := fun c I H x y d e z s rx ry h Q q => by
  obtain ⟨b, h0, rfl⟩ := map_some_of h
  obtain ⟨p1, h1, h⟩ := bind_some_of h0
  obtain ⟨es, h2, h⟩ := bind_some_of h
  obtain ⟨ps, h3, h⟩ := bind_some_of h
  split at h
  · rename_i hs
    cases h
    rw [Bool.and_eq_true, Bool.and_eq_true] at hs
    exact ⟨p1, ps, rx.dp s h1, ry.its_dp s h2 h3, hs.1.1, hs.1.2, hs.2, q.val s (.bl _)⟩
  · cases h
theorem s2_nin {K : PySem.W.Frag} : Snd2 K (rInA K true) ninD := fun c I H x y d e z s rx ry h Q q => by
  obtain ⟨b, h0, rfl⟩ := map_some_of h
  obtain ⟨p1, h1, h⟩ := bind_some_of h0
  obtain ⟨es, h2, h⟩ := bind_some_of h
  obtain ⟨ps, h3, h⟩ := bind_some_of h
  split at h
  · rename_i hs
    cases h
    rw [Bool.and_eq_true, Bool.and_eq_true] at hs
    exact ⟨p1, ps, rx.dp s h1, ry.its_dp s h2 h3, hs.1.1, hs.1.2, hs.2, q.val s (.bl _)⟩
  · cases h

/-! + - * // % << -/
def addD : D → D → Option D
  | .int i, .int j => some (.int (i + j))
  | .str x, .str y => if x.length + y.length ≤ 1000000 then some (.str (x ++ y)) else none
  | .lst xs, .lst ys => if xs.length + ys.length ≤ 1000000 then some (.lst (xs ++ ys)) else none
  | d, e => d.asT.bind fun xs => e.asT.bind fun ys => if xs.length + ys.length ≤ 1000000 then some (.ktp (xs ++ ys)) else none
def rAddI : R2 := rI0 fun i j => .int (i + j)
def rAddS : R2 := fun x y H Q => ∃ i j, x = .str i ∧ y = .str j ∧ i.length + j.length ≤ sizeLine ∧ Q (.str (i ++ j)) H
def rAddA (K : PySem.W.Frag) : R2 := fun x y H Q => rAddI x y H Q ∨ (rAddS x y H Q ∨ (rCat x y H Q ∨ rCatA K x y H Q))
theorem op_addA {X : Cx} : OpR X (binaryOp .Add) (rAddA X.K) := OpR.or (r := rAddI) op_add (OpR.or (r := rAddS) op_add_str (OpR.or op_cat op_catA))
theorem addD_asT {d e z : D} (h : addD d e = some z) : (∃ i j, d = .int i ∧ e = .int j ∧ z = .int (i + j)) ∨ (∃ x y, d = .str x ∧ e = .str y ∧ x.length + y.length ≤ 1000000 ∧ z = .str (x ++ y)) ∨
    (∃ xs ys, d = .lst xs ∧ e = .lst ys ∧ xs.length + ys.length ≤ 1000000 ∧ z = .lst (xs ++ ys)) ∨ ∃ xs ys, d.asT = some xs ∧ e.asT = some ys ∧ xs.length + ys.length ≤ 1000000 ∧ z = .ktp (xs ++ ys) := by
  unfold addD at h
  split at h
  · cases h; exact .inl ⟨_, _, rfl, rfl, rfl⟩
  · split at h
    · cases h; exact .inr (.inl ⟨_, _, rfl, rfl, by assumption, rfl⟩)
    · cases h
  · split at h
    · cases h; exact .inr (.inr (.inl ⟨_, _, rfl, rfl, by assumption, rfl⟩))
    · cases h
  · obtain ⟨xs, h1, h⟩ := bind_some_of h
    obtain ⟨ys, h2, h⟩ := bind_some_of h
    split at h
    · cases h; exact .inr (.inr (.inr ⟨xs, ys, h1, h2, by assumption, rfl⟩))
    · cases h
theorem s2_add {K : PySem.W.Frag} : Snd2 K (rAddA K) addD := fun c I H x y d e z s rx ry h Q q => by
  rcases addD_asT h with ⟨i, j, rfl, rfl, rfl⟩ | ⟨a, b, rfl, rfl, hl, rfl⟩ | ⟨xs, ys, rfl, rfl, hl, rfl⟩ | ⟨xs, ys, h1, h2, hl, rfl⟩
  · cases rx; cases ry
    exact .inl ⟨i, j, rfl, rfl, q.val s (.int _)⟩
  · cases rx; cases ry
    exact .inr (.inl ⟨a, b, rfl, rfl, mil hl, q.val s (.str _)⟩)
  · cases rx with
    | lst h1 r1 => cases ry with
      | lst h2 r2 => exact .inr (.inr (.inl ⟨_, _, _, _, rfl, rfl, s.lst h1, s.lst h2, mil (by rw [r1.length, r2.length]; exact hl), fun p hp => q.lst s hp (r1.app r2)⟩))
  · obtain ⟨a, us, rfl, ha, ra⟩ := rx.asT h1
    obtain ⟨b, ws, rfl, hb, rb⟩ := ry.asT h2
    refine .inr (.inr (.inr ⟨a, b, us, ws, rfl, rfl, s.sqT ha, s.sqT hb, mil (by rw [ra.length, rb.length]; exact hl), fun e => ?_, fun _ e => ?_, fun _ _ p hp => q.ktp s hp (ra.app rb)⟩))
    · subst e
      have r := ra.app rb
      exact q.val s (.ktp hb r)
    · subst e
      have r := ra.app rb
      rw [List.append_nil] at r
      exact q.val s (.ktp ha r)
def i2 (C : Int → Int → Bool) (g : Int → Int → D) : D → D → Option D
  | .int i, .int j => if C i j = true then some (g i j) else none
  | _, _ => none
theorem s2_I {K : PySem.W.Frag} {C : Int → Int → Prop} {C' : Int → Int → Bool} {g : Int → Int → V} {g' : Int → Int → D} (hc : ∀ i j, C' i j = true → C i j) (hg : ∀ c I i j, Rep K c I (g i j) (g' i j)) : Snd2 K (rI C g) (i2 C' g') := fun c I H x y d e z s rx ry h Q q => by
  unfold i2 at h
  split at h
  · split at h
    · cases h; cases rx; cases ry
      exact ⟨_, _, rfl, rfl, hc _ _ (by assumption), q.val s (hg _ _ _ _)⟩
    · cases h
  · cases h
theorem s2_I0 {K : PySem.W.Frag} {g : Int → Int → V} {g' : Int → Int → D} (hg : ∀ c I i j, Rep K c I (g i j) (g' i j)) : Snd2 K (rI0 g) (i2 (fun _ _ => true) g') := fun c I H x y d e z s rx ry h Q q => by
  unfold i2 at h
  split at h
  · rw [if_pos rfl] at h
    cases h; cases rx; cases ry
    exact ⟨_, _, rfl, rfl, q.val s (hg _ _ _ _)⟩
  · cases h
def subD : D → D → Option D := i2 (fun _ _ => true) fun i j => .int (i - j)
def fdivD : D → D → Option D := i2 (fun _ j => decide (0 < j ∧ j < 1073741824)) fun i j => .int (i / j)
def modD : D → D → Option D := i2 (fun _ j => decide (0 < j)) fun i j => .int (i % j)
def powD : D → D → Option D := i2 (fun i j => decide (0 ≤ j ∧ j ≤ 1000000 ∧ i.natAbs < 2 ^ 64)) fun i j => .int (i ^ j.toNat)
def shlD : D → D → Option D := i2 (fun i j => decide (0 ≤ j ∧ j ≤ 1000000 ∧ i.natAbs < 2 ^ 64)) fun i j => .int (i * 2 ^ j.toNat)
def ltD : D → D → Option D := i2 (fun _ _ => true) fun i j => .bl (decide (i < j))
def leD : D → D → Option D := i2 (fun _ _ => true) fun i j => .bl (decide (i ≤ j))
def gtD : D → D → Option D := i2 (fun _ _ => true) fun i j => .bl (decide (j < i))
def geD : D → D → Option D := i2 (fun _ _ => true) fun i j => .bl (decide (j ≤ i))
def mulI : D → D → Option D := i2 (fun i j => decide ((-(2 ^ 64) < i ∧ i < 2 ^ 64) ∨ (-(2 ^ 64) < j ∧ j < 2 ^ 64))) fun i j => .int (i * j)
/-- xs * k -/
def repL : D → D → Option D
  | .lst xs, .int k => if decide (0 ≤ k ∧ k ≤ 1000 ∧ xs.length ≤ 1000) = true then some (.lst (List.replicate k.toNat xs).flatten) else none
  | _, _ => none
def mulD : D → D → Option D := fun d e => (mulI d e).orElse fun _ => repL d e
def rMulI : R2 := rI CMul fun i j => .int (i * j)
def rMulA : R2 := fun x y H Q => rMulI x y H Q ∨ rRep x y H Q
theorem op_mulA {X : Cx} : OpR X (binaryOp .Mult) rMulA := OpR.or (r := rMulI) op_mul op_rep
theorem s2_mul {K : PySem.W.Frag} : Snd2 K rMulA mulD := fun c I H x y d e z s rx ry h Q q => by
  unfold mulD at h
  cases hm : mulI d e with
  | some w =>
    rw [hm] at h
    cases h
    exact .inl (s2_I (K := K) (C := CMul) (g := fun i j => .int (i * j)) (C' := fun i j => decide ((-(2 ^ 64) < i ∧ i < 2 ^ 64) ∨ (-(2 ^ 64) < j ∧ j < 2 ^ 64))) (g' := fun i j => .int (i * j)) (fun i j h => (by have h2 := of_decide_eq_true h; exact h2)) (fun _ _ i j => .int _) _ _ _ _ _ _ _ _ s rx ry hm Q q)
  | none =>
    rw [hm] at h
    have h : repL d e = some z := h
    unfold repL at h
    split at h
    · split at h
      · rename_i ds k _ hc0
        have hc := of_decide_eq_true hc0
        cases h
        cases ry
        cases rx with
        | lst h1 r1 =>
          have hl := r1.length
          refine .inr ⟨_, _, _, rfl, rfl, s.lst h1, by omega, by omega, ?_, fun p hp => q.lst s hp (r1.rep _)⟩
          have h2 : ds.length * k.toNat ≤ 1000 * 1000 := Nat.mul_le_mul hc.2.2 (by omega)
          rw [hl]
          exact mil h2
      · cases h
    · cases h
/-! the order of texts, too -/
def ltA : D → D → Option D
  | .str x, .str y => some (.bl (decide (x.cps.toList < y.cps.toList)))
  | d, e => ltD d e
def rLtS : R2 := fun x y H Q => ∃ i j, x = .str i ∧ y = .str j ∧ Q (.bl (decide (i.cps.toList < j.cps.toList))) H
def rLtI : R2 := rI0 fun i j => .bl (decide (i < j))
def rLtA : R2 := fun x y H Q => rLtI x y H Q ∨ rLtS x y H Q
theorem op_ltA {X : Cx} : OpR X (compareOp .Lt) rLtA := OpR.or (r := rLtI) (r' := rLtS) op_lt op_lt_str
theorem s2_lt {K : PySem.W.Frag} : Snd2 K rLtA ltA := fun c I H x y d e z s rx ry h Q q => by
  unfold ltA at h
  split at h
  · cases h; cases rx; cases ry
    exact .inr ⟨_, _, rfl, rfl, q.val s (.bl _)⟩
  · exact .inl (s2_I0 (K := K) (fun _ _ i j => .bl _) _ _ _ _ _ _ _ _ s rx ry h Q q)
def negD : D → Option D
  | .int i => some (.int (-i))
  | _ => none
theorem s1_neg {K : PySem.W.Frag} : Snd1 K (rU fun i => .int (-i)) negD := fun c I H x d z s rx h Q q => by
  cases rx with
  | int i => cases h; exact ⟨_, rfl, q.val s (.int _)⟩
  | _ => cases h
/-! items, slices -/
def ixD : D → D → Option D
  | .sl ns, .int i => (atI ns i).map .int
  | .str z, .int i => if z.length ≤ 1000000 then (atI z.cps.toList i).map fun c => .str ⟨#[c]⟩ else none
  | d, .int i => d.its.bind fun xs => atI xs i
  | _, _ => none
theorem atI_map {α β : Type} (f : α → β) (xs : List α) (i : Int) : atI (xs.map f) i = (atI xs i).map f := by
  unfold atI
  rw [List.length_map]
  cases ixN xs.length i with
  | none => rfl
  | some j => exact List.getElem?_map
theorem RepL.atI {K : PySem.W.Frag} {c : Option Addr} {I : Hp} {vs : List V} {ds : List D} {i : Int} {d : D} (r : RepL K c I vs ds) (h : L2.atI ds i = some d) : ∃ v, L2.atI vs i = some v ∧ Rep K c I v d := by
  obtain ⟨j, h1, h2⟩ := bind_some_of h
  obtain ⟨v, h3, h4⟩ := r.get h2
  refine ⟨v, ?_, h4⟩
  unfold L2.atI
  rw [r.length, h1]
  exact h3
theorem s2_ix {K : PySem.W.Frag} : Snd2 K (rIx K) ixD := fun c I H x y d e z s rx ry h Q q => by
  unfold ixD at h
  split at h
  · obtain ⟨n, h1, rfl⟩ := map_some_of h
    cases ry
    cases rx with
    | sl hs => exact .inl ⟨_, _, _, _, rfl, rfl, s.sqL hs, by rw [atI_map, h1]; rfl, q.val s (.int _)⟩
  · split at h
    · rename_i hl
      obtain ⟨n, h1, rfl⟩ := map_some_of h
      cases ry
      cases rx
      exact .inr (.inr ⟨_, _, _, rfl, rfl, mil hl, h1, q.val s (.str _)⟩)
    · cases h
  · obtain ⟨xs, h1, h2⟩ := bind_some_of h
    cases ry
    obtain ⟨a, vs, rfl, ha, ra⟩ := rx.its h1
    obtain ⟨v, h3, h4⟩ := ra.atI h2
    rcases ha with ha | ha
    · exact .inr (.inl ⟨_, _, _, _, rfl, rfl, s.sqT ha, h3, q.val s h4⟩)
    · exact .inl ⟨_, _, _, _, rfl, rfl, s.sqL ha, h3, q.val s h4⟩
  · cases h
def cutL {α : Type} (xs : List α) (lo hi : Option Int) : List α := (xs.drop (HT.sIx xs.length 0 lo)).take (HT.sIx xs.length xs.length hi - HT.sIx xs.length 0 lo)
theorem RepL.cut {K : PySem.W.Frag} {c : Option Addr} {I : Hp} {vs : List V} {ds : List D} (r : RepL K c I vs ds) (lo hi : Option Int) : RepL K c I (cutV vs lo hi) (cutL ds lo hi) := by
  unfold cutV cutL
  rw [r.length]
  exact (r.drop _).take _
def slD : D → Option Int → Option Int → Option D
  | .str z, lo, hi => if z.length ≤ 1000000 then some (.str (cutS z lo hi)) else none
  | .lst xs, lo, hi => some (.lst (cutL xs lo hi))
  | d, lo, hi => d.asT.map fun xs => .ktp (cutL xs lo hi)
def rSlAny (K : PySem.W.Frag) : V → Option Int → Option Int → Hp → VK → Prop := fun x lo hi H Q => rSlS x lo hi H Q ∨ (rSlL K x lo hi H Q ∨ rSlA K x lo hi H Q)
theorem sl_any {X : Cx} : SlR X (rSlAny X.K) := SlR.or sl_str (SlR.or sl_list sl_tupA)
theorem ss_sl {K : PySem.W.Frag} : SndSl K (rSlAny K) slD := fun c I H x d lo hi z s rx h Q q => by
  unfold slD at h
  split at h
  · split at h
    · rename_i hl
      cases h; cases rx
      exact .inl ⟨_, rfl, mil hl, q.val s (.str _)⟩
    · cases h
  · cases h
    cases rx with
    | lst h1 r => exact .inr (.inl ⟨_, _, rfl, .of (s.lst h1), fun p hp => q.lst s hp (r.cut lo hi)⟩)
  · obtain ⟨xs, h1, rfl⟩ := map_some_of h
    obtain ⟨a, vs, rfl, ha, ra⟩ := rx.asT h1
    refine .inr (.inr ⟨a, vs, rfl, s.sqT ha, fun hw => ?_, fun _ p hp => q.ktp s hp (ra.cut lo hi)⟩)
    have e : cutV vs lo hi = vs := by
      unfold cutV
      rw [hw.1, hw.2]
      simp
    have r := ra.cut lo hi
    rw [e] at r
    exact q.val s (.ktp ha r)
end Dl
end
section
set_option Elab.async false
set_option linter.all false
set_option maxRecDepth 100000
set_option maxHeartbeats 4000000
namespace Dl
open PySem PySem.Spec PyProof.Rows L2 StX

section
variable {X : Cx} {e a b d : Expr} {es : List Expr} {te ta tb tc : TE} {da db dc : Dn} {tA tB' : TT} {bA bB : Dt} {tx : TA} {ax : Da} {pos p : Pos}
theorem ee_var (i : Nat) {x : Str} (hN : X.N[i]? = some x := by rfl) (hv : Vis X.env.scope x := by first | exact Or.inl rfl | exact Or.inr (Or.inl rfl) | exact Or.inr (Or.inr rfl)) (hd : (x == ("__debug__" : Str)) = false := by decide)
    (hcd : (x == ("__classdict__" : Str)) = false := by decide) : EE X (.Name x pos) (tVar i) (dVar i) := ⟨pe_var hN hv hd hcd, sn_var i⟩
theorem ee_int {i : Int} {j : Nat} : EE X (.Constant (.int i) j pos) (tC (.int i)) (dC (.int i)) := ⟨pe_int, sn_c fun _ _ => .int i⟩
theorem ee_bl {i : Bool} {j : Nat} : EE X (.Constant (.bool i) j pos) (tC (.bl i)) (dC (.bl i)) := ⟨pe_bl, sn_c fun _ _ => .bl i⟩
theorem ee_non {j : Nat} : EE X (.Constant .none j pos) (tC .non) (dC .non) := ⟨pe_non, sn_c fun _ _ => .non⟩
theorem ee_str {i : Str} {j : Nat} : EE X (.Constant (.str i) j pos) (tC (.str i)) (dC (.str i)) := ⟨pe_str, sn_c fun _ _ => .str i⟩
theorem ee_glob {x : Str} {v : V} {u : Value} {d : D} (hg : Gl X x) (hm : X.mg x = some u) (r : RelV v u) (rp : ∀ c I, Rep X.K c I v d) (hd : (x == ("__debug__" : Str)) = false := by decide) : EE X (.Name x pos) (tC v) (dC d) :=
  ⟨pe_glob hg hm r hd, sn_c rp⟩
theorem ee_op {op : Operator} {r : R2} {f : D → D → Option D} (ho : OpR X (binaryOp op) r) (hs : Snd2 X.K r f) (ha : EE X a ta da) (hb : EE X b tb db) : EE X (.BinOp a op b pos) (tOp r ta tb) (dOp f da db) :=
  ⟨pe_op ho ha.p hb.p, sn_op ha.s hb.s hs⟩
theorem ee_add (ha : EE X a ta da) (hb : EE X b tb db) : EE X (.BinOp a .Add b pos) (tOp (rAddA X.K) ta tb) (dOp addD da db) := ee_op op_addA s2_add ha hb
theorem ee_sub (ha : EE X a ta da) (hb : EE X b tb db) : EE X (.BinOp a .Sub b pos) (tOp (rI0 fun i j => .int (i - j)) ta tb) (dOp subD da db) := ee_op op_sub (s2_I0 fun _ _ _ _ => .int _) ha hb
theorem ee_mul (ha : EE X a ta da) (hb : EE X b tb db) : EE X (.BinOp a .Mult b pos) (tOp rMulA ta tb) (dOp mulD da db) := ee_op op_mulA s2_mul ha hb
theorem ee_fdiv (ha : EE X a ta da) (hb : EE X b tb db) : EE X (.BinOp a .FloorDiv b pos) (tOp (rI CDiv fun i j => .int (i / j)) ta tb) (dOp fdivD da db) := ee_op op_fdiv (s2_I (fun _ _ h => (by have h2 := of_decide_eq_true h; exact h2)) fun _ _ _ _ => .int _) ha hb
theorem ee_mod (ha : EE X a ta da) (hb : EE X b tb db) : EE X (.BinOp a .Mod b pos) (tOp (rI (fun _ j => 0 < j) fun i j => .int (i % j)) ta tb) (dOp modD da db) := ee_op op_mod (s2_I (fun _ _ h => of_decide_eq_true h) fun _ _ _ _ => .int _) ha hb
theorem ee_pow (ha : EE X a ta da) (hb : EE X b tb db) : EE X (.BinOp a .Pow b pos) (tOp (rI CPow fun i j => .int (i ^ j.toNat)) ta tb) (dOp powD da db) := ee_op op_pow (s2_I (fun _ _ h => (by have h2 := of_decide_eq_true h; exact h2)) fun _ _ _ _ => .int _) ha hb
theorem ee_shl (ha : EE X a ta da) (hb : EE X b tb db) : EE X (.BinOp a .LShift b pos) (tOp (rI CPow fun i j => .int (i * 2 ^ j.toNat)) ta tb) (dOp shlD da db) := ee_op op_shl (s2_I (fun _ _ h => (by have h2 := of_decide_eq_true h; exact h2)) fun _ _ _ _ => .int _) ha hb
theorem ee_neg (ha : EE X a ta da) : EE X (.UnaryOp .USub a pos) (tUn (rU fun i => .int (-i)) ta) (dUn negD da) := ⟨pe_un un_neg ha.p, (sn_un ha.s s1_neg : SndE X.K (fun σ H Q => ta σ H fun x H1 => rU (fun i => .int (-i)) x H1 Q) _)⟩
/-- a comparison's rule and what it means -/
structure CM (X : Cx) (op : CmpOp) (r : R2) (f : D → D → Option D) : Prop where
  o : OpR X (compareOp op) r
  s : Snd2 X.K r f
theorem cm_eq {k : Nat} (hr : Room k X.A) : CM X .Eq (rEqD X.K) eqD := ⟨op_eqD hr.units, s2_eq⟩
theorem cm_ne {k : Nat} (hr : Room k X.A) : CM X .NotEq (rNeD X.K) neD := ⟨op_neD hr.units, s2_ne⟩
theorem un65 {A : Around} {k : Nat} (hr : Room (k + 1) A) : A.units + 65 < cLine := by have := hr.un; omega
theorem cm_in {k : Nat} (hr : Room (k + 1) X.A) : CM X .In (rInA X.K false) inD := ⟨op_inA (un65 hr), s2_in⟩
theorem cm_nin {k : Nat} (hr : Room (k + 1) X.A) : CM X .NotIn (rInA X.K true) ninD := ⟨op_ninA (un65 hr), s2_nin⟩
theorem cm_lt : CM X .Lt rLtA ltA := ⟨op_ltA, s2_lt⟩
theorem cm_le : CM X .LtE (rI0 fun i j => .bl (decide (i ≤ j))) leD := ⟨op_le, s2_I0 fun _ _ _ _ => .bl _⟩
theorem cm_gt : CM X .Gt (rI0 fun i j => .bl (decide (j < i))) gtD := ⟨op_gt, s2_I0 fun _ _ _ _ => .bl _⟩
theorem cm_ge : CM X .GtE (rI0 fun i j => .bl (decide (j ≤ i))) geD := ⟨op_ge, s2_I0 fun _ _ _ _ => .bl _⟩
theorem ee_cmp {op : CmpOp} {r : R2} {f : D → D → Option D} (h : CM X op r f) (ha : EE X a ta da) (hb : EE X b tb db) (hm : behindInMarks op b = false := by first | exact nomark _ | rfl) : EE X (.Compare a [op] [b] pos) (tOp r ta tb) (dOp f da db) :=
  ⟨pe_cmpR h.o ha.p hb.p hm, sn_op ha.s hb.s h.s⟩
theorem et_cmp {op : CmpOp} {r : R2} {f : D → D → Option D} (h : CM X op r f) (ha : EE X a ta da) (hb : EE X b tb db) (hm : behindInMarks op b = false := by first | exact nomark _ | rfl) : ET X (.Compare a [op] [b] pos) (tTest (tOp r ta tb)) (dB (dOp f da db)) :=
  ⟨pt_cmpR h.o ha.p hb.p hm, sn_test (sn_op ha.s hb.s h.s)⟩
def isNB : D → Option Bool
  | .non => some true
  | .fn _ => none
  | _ => some false
def isN (d : D) : Option D := (isNB d).map .bl
def notN (d : D) : Option D := (isNB d).map fun b => .bl (!b)
theorem isNB_of {K : PySem.W.Frag} {c : Option Addr} {I : Hp} {v : V} {d : D} {b : Bool} (r : Rep K c I v d) (h : isNB d = some b) : decide (v = .non) = b := by
  cases r with
  | non => cases h; rfl
  | fn v => cases h
  | _ => cases h; rfl
theorem s1_isN {K : PySem.W.Frag} : Snd1 K (fun x H Q => Q (.bl (decide (x = .non))) H) isN := fun c I H x d z s rx h Q q => by
  obtain ⟨b, h0, rfl⟩ := map_some_of h
  show Q (.bl (decide (x = .non))) H
  rw [isNB_of rx h0]
  exact q.val s (.bl _)
theorem s1_notN {K : PySem.W.Frag} : Snd1 K (fun x H Q => Q (.bl (!decide (x = .non))) H) notN := fun c I H x d z s rx h Q q => by
  obtain ⟨b, h0, rfl⟩ := map_some_of h
  show Q (.bl (!decide (x = .non))) H
  rw [isNB_of rx h0]
  exact q.val s (.bl _)
theorem ee_isN {j : Nat} {p' : Pos} (ha : EE X a ta da) : EE X (.Compare a [.Is] [.Constant .none j p'] pos) (tIsN ta) (dUn isN da) := ⟨pe_cmp (pc_isN ha.p) rfl, (sn_un ha.s s1_isN : SndE X.K (fun σ H Q => ta σ H fun x H1 => (fun x H Q => Q (V.bl (decide (x = .non))) H) x H1 Q) _)⟩
theorem ee_notN {j : Nat} {p' : Pos} (ha : EE X a ta da) : EE X (.Compare a [.IsNot] [.Constant .none j p'] pos) (tNotN ta) (dUn notN da) := ⟨pe_cmp (pc_notN ha.p) rfl, (sn_un ha.s s1_notN : SndE X.K (fun σ H Q => ta σ H fun x H1 => (fun x H Q => Q (V.bl (!decide (x = .non))) H) x H1 Q) _)⟩
theorem et_isN {j : Nat} {p' : Pos} (ha : EE X a ta da) : ET X (.Compare a [.Is] [.Constant .none j p'] pos) (tB (tIsN ta)) (dB (dUn isN da)) := ⟨pt_cmp (pc_isN ha.p) rfl, sn_B (sn_un ha.s s1_isN : SndE X.K (fun σ H Q => ta σ H fun x H1 => (fun x H Q => Q (V.bl (decide (x = .non))) H) x H1 Q) _)⟩
theorem et_notN {j : Nat} {p' : Pos} (ha : EE X a ta da) : ET X (.Compare a [.IsNot] [.Constant .none j p'] pos) (tB (tNotN ta)) (dB (dUn notN da)) := ⟨pt_cmp (pc_notN ha.p) rfl, sn_B (sn_un ha.s s1_notN : SndE X.K (fun σ H Q => ta σ H fun x H1 => (fun x H Q => Q (V.bl (!decide (x = .non))) H) x H1 Q) _)⟩
theorem ee_chain {op op' : CmpOp} {r r' : R2} {f g : D → D → Option D} (h : CM X op r f) (h' : CM X op' r' g) (ha : EE X a ta da) (hb : EE X b tb db) (hc : EE X d tc dc) (hm : lastMarks [op, op'] [b, d] = false := by rfl) :
    EE X (.Compare a [op, op'] [b, d] pos) (tChain r r' ta tb tc) (dChain f g da db dc) := ⟨pe_chain h.o h'.o ha.p hb.p hc.p hm, sn_chain ha.s hb.s hc.s h.s h'.s⟩
theorem et_val (ha : EE X e te da) (he : ∀ whole, isTrue e X.env whole = (do let v ← whole; standAt e.pos; holding [v] (truthy v)) := by intro _; rfl) : ET X e (tB te) (dB da) := ⟨pt_val ha.p he, sn_B ha.s⟩
theorem et_not (ha : ET X a tA bA) : ET X (.UnaryOp .Not a pos) (tNot tA) (dNot bA) := ⟨pt_not ha.p, sn_not ha.s⟩
/-- and, or as tests -/
structure EW (X : Cx) (e : Expr) (te : TT) (dn : Dt) : Prop where
  p : PW X e te
  s : SndT X.K te dn
theorem ew_and1 (ha : ET X a tA bA) : EW X (.BoolOp .And [a] pos) tA bA := ⟨pw_and1 ha.p, ha.s⟩
theorem ew_or1 (ha : ET X a tA bA) : EW X (.BoolOp .Or [a] pos) tA bA := ⟨pw_or1 ha.p, ha.s⟩
theorem ew_and (ha : ET X a tA bA) (hb : EW X (.BoolOp .And (b :: es) pos) tB' bB) : EW X (.BoolOp .And (a :: b :: es) pos) (tAnd tA tB') (dAnd bA bB) := ⟨pw_and ha.p hb.p, sn_and ha.s hb.s⟩
theorem ew_or (ha : ET X a tA bA) (hb : EW X (.BoolOp .Or (b :: es) pos) tB' bB) : EW X (.BoolOp .Or (a :: b :: es) pos) (tOr tA tB') (dOr bA bB) := ⟨pw_or ha.p hb.p, sn_or ha.s hb.s⟩
theorem EW.t (h : EW X e tA bA) : ET X e tA bA := ⟨h.p.pt, h.s⟩
theorem ee_one {op : BoolOp} (ha : EE X a ta da) : EE X (.BoolOp op [a] pos) ta da := ⟨pe_one ha.p, ha.s⟩
theorem ee_and (ha : EE X a ta da) (hb : EE X (.BoolOp .And (b :: es) pos) tb db) : EE X (.BoolOp .And (a :: b :: es) pos) (tAndV ta tb) (dAndV da db) := ⟨pe_and ha.p hb.p, sn_andV ha.s hb.s⟩
theorem ee_or (ha : EE X a ta da) (hb : EE X (.BoolOp .Or (b :: es) pos) tb db) : EE X (.BoolOp .Or (a :: b :: es) pos) (tOrV ta tb) (dOrV da db) := ⟨pe_or ha.p hb.p, sn_orV ha.s hb.s⟩
theorem ee_not (ha : EE X a ta da) : EE X (.UnaryOp .Not a pos) (tNotV ta) (dNotV da) := ⟨pe_not ha.p, sn_notV ha.s⟩
theorem ee_if {t : Expr} (ht : ET X t tA bA) (ha : EE X a ta da) (hb : EE X b tb db) : EE X (.IfExp t a b pos) (tIf tA ta tb) (dIf bA da db) := ⟨pe_ifExp ht.p ha.p hb.p, sn_if ht.s ha.s hb.s⟩
theorem ea_nil : EA X [] tNil dNil := ⟨pa_nil, sn_nil⟩
theorem ea_cons (ha : EE X e te da) (hr : EA X es tx ax) (hs : starEach (e :: es) X.env = (false, eval e X.env) :: starEach es X.env := by rfl) : EA X (e :: es) (tCons te tx) (dCons da ax) := ⟨pa_cons ha.p hr.p hs, sn_cons ha.s hr.s⟩
theorem ea_star (ha : EE X e te da) (hr : EA X es tx ax) (hs : starEach (.Starred e p :: es) X.env = (true, eval e X.env) :: starEach es X.env := by rfl) : EA X (.Starred e p :: es) (tStar X.K te tx) (dStar da ax) := ⟨pa_star ha.p hr.p hs, sn_star ha.s hr.s⟩
theorem ee_tup {k : Nat} (h : EA X es tx ax) : EE X (.Tuple es k pos) (tTupF tx) (dTup ax) := ⟨pe_tupF h.p, sn_tup h.s⟩
theorem ee_lst (h : EA X es tx ax) : EE X (.List es pos) (tLst tx) (dLst ax) := ⟨pe_lst h.p, sn_lst h.s⟩
theorem ee_ix (ha : EE X a ta da) (hb : EE X b tb db) (hs : PlainIx b := by exact fun _ _ => rfl) : EE X (.Subscript a b pos) (tOp (rIx X.K) ta tb) (dOp ixD da db) := ⟨pe_ix ix_seq ha.p hb.p hs, sn_op ha.s hb.s s2_ix⟩
theorem eo_none : EO X none tNoPart dNone := ⟨po_none, sn_nopart⟩
theorem eo_some (ha : EE X a ta da) : EO X (some a) (tPart ta) (dSome da) := ⟨po_some ha.p, sn_part ha.s⟩
theorem ee_sl {lo hi : Option Expr} {tl th : TO} {dl dh : Do} {p2 : Pos} (ha : EE X a ta da) (hl : EO X lo tl dl) (hh : EO X hi th dh) : EE X (.Subscript a (.Slice lo hi none p2) pos) (tSl (rSlAny X.K) ta tl th) (dSl slD da dl dh) :=
  ⟨pe_slice sl_any ha.p hl.p hh.p, sn_sl ha.s hl.s hh.s ss_sl⟩
theorem ee_callB {id : String} {x : Str} {r : List V → Hp → VK → Prop} {f : List D → Option D} (hc : CallR X (.builtin id) r) (hs : SndL X.K r f) (hg : Gl X x) (hm : X.mg x = none) (hv : bootBuiltins x = some (.builtin id)) (ha : EA X (e :: es) tx ax) (hn : x ≠ "__name__" := by decide) (hdb : (x == ("__debug__" : Str)) = false := by decide)
    (he : starEach (e :: es) X.env = (false, eval e X.env) :: starEach es X.env := by rfl) (hpl : (backTo pos (starEach es X.env)).any (fun z => z.1) = false := by rfl) : EE X (.Call (.Name x p) (e :: es) [] pos) (tCB r tx) (dCallB f ax) :=
  ⟨pe_callB hc hg hm hv ha.p hn hdb he hpl, sn_callB ha.s hs⟩
theorem ee_callT {T : String} {x : Str} {r : List V → Hp → VK → Prop} {f : List D → Option D} (hc : CallR X (.type T) r) (hs : SndL X.K r f) (hg : Gl X x) (hm : X.mg x = none) (hv : bootBuiltins x = some (.type T)) (ha : EA X (e :: es) tx ax) (hn : x ≠ "__name__" := by decide) (hdb : (x == ("__debug__" : Str)) = false := by decide)
    (he : starEach (e :: es) X.env = (false, eval e X.env) :: starEach es X.env := by rfl) (hpl : (backTo pos (starEach es X.env)).any (fun z => z.1) = false := by rfl) : EE X (.Call (.Name x p) (e :: es) [] pos) (tCB r tx) (dCallB f ax) :=
  ⟨pe_callTy hc hg hm hv ha.p hn hdb he hpl, sn_callB ha.s hs⟩
end

/-! built-ins -/
section
variable {K : PySem.W.Frag}
def lenD : List D → Option D
  | [.str z] => if z.length ≤ 1000000 then some (.int z.length) else none
  | [.sl ns] => some (.int ns.length)
  | [d] => d.its.map fun xs => .int xs.length
  | _ => none
def rLenA (K : PySem.W.Frag) : List V → Hp → VK → Prop := fun xs H Q => ∃ x n, xs = [x] ∧ LenV K x H n ∧ Q (.int n) H
theorem sl_len : SndL K (rLenA K) lenD := fun c I H xs ds z s rx h Q q => by
  unfold lenD at h
  split at h
  · split at h
    · rename_i hl
      cases h
      cases rx with
      | cons a r => cases r; cases a; exact ⟨_, _, rfl, ⟨mil hl, rfl⟩, q.val s (.int _)⟩
    · cases h
  · cases h
    cases rx with
    | cons a r => cases r; cases a with
      | sl hs => exact ⟨_, _, rfl, .inl ⟨_, s.sqL hs, by rw [List.length_map]⟩, q.val s (.int _)⟩
  · obtain ⟨xs, h1, rfl⟩ := map_some_of h
    cases rx with
    | cons a r =>
      cases r
      obtain ⟨p, vs, rfl, hp, rp⟩ := a.its h1
      refine ⟨_, _, rfl, ?_, q.val s (.int _)⟩
      rcases hp with hp | hp
      · exact .inr ⟨_, s.sqT hp, rp.length.symm⟩
      · exact .inl ⟨_, s.sqL hp, rp.length.symm⟩
  · cases h
def intD : List D → Option D
  | [.int i] => some (.int i)
  | _ => none
def rIntA : List V → Hp → VK → Prop := fun xs H Q => (∃ i, xs = [.int i] ∧ Q (.int i) H) ∨ ∃ k, xs = [.bl k] ∧ Q (.int (if k then 1 else 0)) H
theorem sl_int : SndL K rIntA intD := fun c I H xs ds z s rx h Q q => by
  unfold intD at h
  split at h
  · cases h
    cases rx with
    | cons a r => cases r; cases a; exact .inl ⟨_, rfl, q.val s (.int _)⟩
  · cases h
def tupleD : List D → Option D
  | [.lst xs] => some (.tup xs)
  | [.tup xs] => some (.tup xs)
  | [.ktp xs] => some (.ktp xs)
  | _ => none
theorem sl_tuple : SndL K (rTupOf K) tupleD := fun c I H xs ds z s rx h Q q => by
  unfold tupleD at h
  split at h
  · cases h
    cases rx with
    | cons a r => cases r; cases a with
      | lst h1 r1 => exact ⟨_, _, rfl, .inl ⟨.of (s.lst h1), fun l o hl ho => q.tup s hl ho r1⟩⟩
  · cases h
    cases rx with
    | cons a r => cases r; cases a with
      | tup h1 ho r1 => exact ⟨_, _, rfl, .inr ⟨.inl (s.rdT (.inr ⟨_, h1⟩)), q.val s (.tup h1 ho r1)⟩⟩
  · cases h
    cases rx with
    | cons a r => cases r; cases a with
      | ktp h1 r1 => exact ⟨_, _, rfl, .inr ⟨s.sqT h1, q.val s (.ktp h1 r1)⟩⟩
  · cases h
def boolsOf : List D → Option (List Bool)
  | [] => some []
  | .bl b :: r => (boolsOf r).map fun bs => b :: bs
  | _ :: _ => none
theorem boolsOf_rep {c : Option Addr} {I : Hp} : ∀ {vs : List V} {ds : List D} {bs : List Bool}, RepL K c I vs ds → boolsOf ds = some bs → vs = bs.map V.bl
  | _, _, _, .nil, h => by cases h; rfl
  | _, _, _, .cons a r, h => by
    cases a with
    | bl b =>
      obtain ⟨bs, h1, rfl⟩ := map_some_of h
      rw [boolsOf_rep r h1]; rfl
    | _ => cases h
def anyD : List D → Option D
  | [.lst xs] => (boolsOf xs).map fun bs => .bl (bs.any id)
  | _ => none
def allD : List D → Option D
  | [.lst xs] => (boolsOf xs).map fun bs => .bl (bs.all id)
  | _ => none
theorem sl_anyB : SndL K (rAny K) anyD := fun c I H xs ds z s rx h Q q => by
  unfold anyD at h
  split at h
  · obtain ⟨bs, h1, rfl⟩ := map_some_of h
    cases rx with
    | cons a r => cases r; cases a with
      | lst h2 r1 =>
        rw [boolsOf_rep r1 h1] at h2
        exact ⟨_, bs, rfl, .of (s.lst h2), q.val s (.bl _)⟩
  · cases h
theorem sl_allB : SndL K (rAll K) allD := fun c I H xs ds z s rx h Q q => by
  unfold allD at h
  split at h
  · obtain ⟨bs, h1, rfl⟩ := map_some_of h
    cases rx with
    | cons a r => cases r; cases a with
      | lst h2 r1 =>
        rw [boolsOf_rep r1 h1] at h2
        exact ⟨_, bs, rfl, .of (s.lst h2), q.val s (.bl _)⟩
  · cases h
def intsOf : List D → Option (List Int)
  | [] => some []
  | .int b :: r => (intsOf r).map fun bs => b :: bs
  | _ :: _ => none
theorem intsOf_rep {c : Option Addr} {I : Hp} : ∀ {vs : List V} {ds : List D} {bs : List Int}, RepL K c I vs ds → intsOf ds = some bs → vs = bs.map V.int
  | _, _, _, .nil, h => by cases h; rfl
  | _, _, _, .cons a r, h => by
    cases a with
    | int b =>
      obtain ⟨bs, h1, rfl⟩ := map_some_of h
      rw [intsOf_rep r h1]; rfl
    | _ => cases h
def strsOf : List D → Option (List Str)
  | [] => some []
  | .str b :: r => (strsOf r).map fun bs => b :: bs
  | _ :: _ => none
theorem strsOf_rep {c : Option Addr} {I : Hp} : ∀ {vs : List V} {ds : List D} {bs : List Str}, RepL K c I vs ds → strsOf ds = some bs → vs = bs.map V.str
  | _, _, _, .nil, h => by cases h; rfl
  | _, _, _, .cons a r, h => by
    cases a with
    | str b =>
      obtain ⟨bs, h1, rfl⟩ := map_some_of h
      rw [strsOf_rep r h1]; rfl
    | _ => cases h
def sumD : List D → Option D
  | [.lst xs] => (intsOf xs).map fun bs => .int bs.sum
  | _ => none
theorem sl_sum : SndL K (rSum K) sumD := fun c I H xs ds z s rx h Q q => by
  unfold sumD at h
  split at h
  · obtain ⟨bs, h1, rfl⟩ := map_some_of h
    cases rx with
    | cons a r => cases r; cases a with
      | lst h2 r1 =>
        rw [intsOf_rep r1 h1] at h2
        exact ⟨_, bs, rfl, .of (s.lst h2), q.val s (.int _)⟩
  · cases h
def maxD : List D → Option D
  | [.int i, .int j] => some (.int (if j > i then j else i))
  | _ => none
def minD : List D → Option D
  | [.int i, .int j] => some (.int (if j < i then j else i))
  | _ => none
def rMax2 : List V → Hp → VK → Prop := fun xs H Q => ∃ i j, xs = [.int i, .int j] ∧ Q (.int (if j > i then j else i)) H
def rMin2 : List V → Hp → VK → Prop := fun xs H Q => ∃ i j, xs = [.int i, .int j] ∧ Q (.int (if j < i then j else i)) H
theorem sl_max : SndL K rMax2 maxD := fun c I H xs ds z s rx h Q q => by
  unfold maxD at h
  split at h
  · cases h
    cases rx with
    | cons a r => cases r with
      | cons b r => cases r; cases a; cases b; exact ⟨_, _, rfl, q.val s (.int _)⟩
  · cases h
theorem sl_min : SndL K rMin2 minD := fun c I H xs ds z s rx h Q q => by
  unfold minD at h
  split at h
  · cases h
    cases rx with
    | cons a r => cases r with
      | cons b r => cases r; cases a; cases b; exact ⟨_, _, rfl, q.val s (.int _)⟩
  · cases h
/-! kinds -/
def D.ty : D → Option String
  | .non => some "NoneType"
  | .bl _ => some "bool"
  | .int _ => some "int"
  | .str _ => some "str"
  | .tup _ => some "tuple"
  | .ktp _ => some "tuple"
  | .lst _ => some "list"
  | _ => none
theorem Rep.tyX {c : Option Addr} {I H : Hp} {v : V} {d : D} {t : String} (s : Sub I H) (r : Rep K c I v d) (h : d.ty = some t) : TyX K H v (.type t) := by
  cases r with
  | non => cases h; exact .base .non
  | bl b => cases h; exact .base (.bl b)
  | int b => cases h; exact .base (.int b)
  | str b => cases h; exact .base (.str b)
  | tup h1 _ _ => cases h; exact .fTuple (s.get h1 fun _ z => by cases z)
  | ktp h1 _ =>
    cases h
    rcases s.sqT h1 with (h1 | ⟨o, h1⟩) | ⟨o, its, n, h1, h2, _⟩
    · exact .base (.tup h1)
    · exact .fTuple h1
    · exact .kTuple h1 h2
  | lst h1 _ => cases h; exact .base (.lst (s.lst h1))
  | _ => cases h
/-- the types that are asked -/
def tyB (t u : String) : Bool := t == u || (t == "bool" && u == "int")
def tysAsked : List String := ["NoneType", "bool", "int", "str", "tuple", "list"]
theorem kit_all : (tysAsked.all fun t => ["int", "str", "tuple", "list", "bool"].all fun u => decide (kitB t u = some (tyB t u))) = true := by decide +kernel
theorem kit_tyB {t u : String} (ht : t ∈ tysAsked) (hu : u ∈ ["int", "str", "tuple", "list", "bool"]) : PySem.W.kitOne K (.type t) (.type u) = some (tyB t u) :=
  kit_ty (of_decide_eq_true (List.all_eq_true.mp (List.all_eq_true.mp kit_all t ht) u hu))
theorem D.ty_asked {d : D} {t : String} (h : d.ty = some t) : t ∈ tysAsked := by
  cases d <;> cases h <;> decide
def isiD (u : String) (d : D) : Option D := d.ty.map fun t => .bl (tyB t u)
def isi2D (u w : String) (d : D) : Option D := d.ty.map fun t => .bl (tyB t u || tyB t w)
/-- isinstance(e, T) -/
def tIsi (K : PySem.W.Frag) (te tc : TE) : TE := tCB (rIsi K) (tCons te (tCons tc tNil))
theorem sn_isi {te : TE} {da : Dn} {u : String} (hu : u ∈ ["int", "str", "tuple", "list", "bool"]) (h1 : SndE K te da) : SndE K (tIsi K te (tC (.ty u))) (dUn (isiD u) da) := fun c I H σ ρ s d s' e h Q q => by
  obtain ⟨⟨x, s1⟩, h2, h⟩ := bind_some_of h
  obtain ⟨z, h3, h⟩ := map_some_of h
  cases h
  obtain ⟨t, h4, rfl⟩ := map_some_of h3
  refine h1 _ _ _ _ _ _ _ _ e h2 _ fun v I1 H1 g1 w1 r1 => ?_
  exact ⟨v, .ty u, .type t, .type u, tyB t u, rfl, .ty u, r1.tyX g1.s2 h4, kit_tyB (D.ty_asked h4) hu, q _ _ _ g1 w1 (.bl _)⟩
/-- isinstance(e, (T, U)) -/
def tIsi2 (K : PySem.W.Frag) (te tc tc2 : TE) : TE := tCB (rIsiT K) (tCons te (tCons (tTup (tCons tc (tCons tc2 tNil))) tNil))
theorem sn_isi2 {te : TE} {da : Dn} {u u2 : String} (hu : u ∈ ["int", "str", "tuple", "list", "bool"]) (hu2 : u2 ∈ ["int", "str", "tuple", "list", "bool"]) (h1 : SndE K te da) : SndE K (tIsi2 K te (tC (.ty u)) (tC (.ty u2))) (dUn (isi2D u u2) da) := fun c I H σ ρ s d s' e h Q q => by
  obtain ⟨⟨x, s1⟩, h2, h⟩ := bind_some_of h
  obtain ⟨z, h3, h⟩ := map_some_of h
  cases h
  obtain ⟨t, h4, rfl⟩ := map_some_of h3
  refine h1 _ _ _ _ _ _ _ _ e h2 _ fun v I1 H1 g1 w1 r1 => ⟨by show 2 ≤ sizeLine; decide, fun p hp => ?_⟩
  have g := Gr.new (o := .tup [.ty u, .ty u2]) g1.s2 hp
  have r2 := r1.mono g.s1
  refine ⟨v, p, _, .type t, [.type u, .type u2], tyB t u || tyB t u2, rfl, upd_same, .cons (.ty u) (.cons (.ty u2) .nil), r2.tyX g.s2 h4, ?_, q _ _ _ (g1.tr w1 g.up) (w1.gr g) (.bl _)⟩
  have k1 : PySem.W.kitOne K (.type t) (.type u) = some (tyB t u) := kit_tyB (D.ty_asked h4) hu
  have k2 : PySem.W.kitOne K (.type t) (.type u2) = some (tyB t u2) := kit_tyB (D.ty_asked h4) hu2
  refine kitAny_cons k1 (fun hb => ?_) (fun hb => by rw [hb]; rfl)
  rw [hb]
  exact kitAny_cons k2 (fun hb => by rw [hb]; exact kitAny_nil) (fun hb => by rw [hb]; rfl)
end
section
variable {X : Cx} {e : Expr} {te : TE} {da : Dn} {pos p p2 p3 p4 : Pos}
theorem ee_isi {y : Str} {u : String} (hu : u ∈ ["int", "str", "tuple", "list", "bool"]) (hg : Gl X "isinstance") (hm : X.mg "isinstance" = none) (hgy : Gl X y) (hmy : X.mg y = none) (hvy : bootBuiltins y = some (.type u)) (ha : EE X e te da) (hny : y ≠ "__name__" := by decide) (hdy : (y == ("__debug__" : Str)) = false := by decide)
    (hs : starEach (e :: [.Name y p2]) X.env = (false, eval e X.env) :: starEach [.Name y p2] X.env := by rfl) (hs2 : starEach [.Name y p2] X.env = (false, eval (.Name y p2) X.env) :: starEach [] X.env := by rfl) (hpl : (backTo pos (starEach [.Name y p2] X.env)).any (fun z => z.1) = false := by rfl) :
    EE X (.Call (.Name "isinstance" p) [e, .Name y p2] [] pos) (tIsi X.K te (tC (.ty u))) (dUn (isiD u) da) :=
  ⟨pe_callB call_isi hg hm (by decide +kernel) (pa_cons ha.p (pa_cons (pe_bltn (v := .ty u) hgy hmy hvy rfl hny hdy) pa_nil hs2) hs) (by decide) (by decide) hs hpl, sn_isi hu ha.s⟩
theorem ee_isi2 {y z : Str} {u w : String} {k : Nat} (hu : u ∈ ["int", "str", "tuple", "list", "bool"]) (hw : w ∈ ["int", "str", "tuple", "list", "bool"]) (hg : Gl X "isinstance") (hm : X.mg "isinstance" = none) (hgy : Gl X y) (hmy : X.mg y = none) (hvy : bootBuiltins y = some (.type u))
    (hgz : Gl X z) (hmz : X.mg z = none) (hvz : bootBuiltins z = some (.type w)) (ha : EE X e te da) (hny : y ≠ "__name__" := by decide) (hdy : (y == ("__debug__" : Str)) = false := by decide) (hnz : z ≠ "__name__" := by decide) (hdz : (z == ("__debug__" : Str)) = false := by decide)
    (hs : starEach (e :: [.Tuple [.Name y p2, .Name z p3] k p4]) X.env = (false, eval e X.env) :: starEach [.Tuple [.Name y p2, .Name z p3] k p4] X.env := by rfl)
    (hs2 : starEach [.Tuple [.Name y p2, .Name z p3] k p4] X.env = (false, eval (.Tuple [.Name y p2, .Name z p3] k p4) X.env) :: starEach [] X.env := by rfl)
    (hs3 : starEach [.Name y p2, .Name z p3] X.env = (false, eval (.Name y p2) X.env) :: starEach [.Name z p3] X.env := by rfl) (hs4 : starEach [.Name z p3] X.env = (false, eval (.Name z p3) X.env) :: starEach [] X.env := by rfl)
    (hpl : (backTo pos (starEach [.Tuple [.Name y p2, .Name z p3] k p4] X.env)).any (fun z => z.1) = false := by rfl) :
    EE X (.Call (.Name "isinstance" p) [e, .Tuple [.Name y p2, .Name z p3] k p4] [] pos) (tIsi2 X.K te (tC (.ty u)) (tC (.ty w))) (dUn (isi2D u w) da) :=
  ⟨pe_callB call_isiT hg hm (by decide +kernel) (pa_cons ha.p (pa_cons (pe_tup (pa_cons (pe_bltn (v := .ty u) hgy hmy hvy rfl hny hdy) (pa_cons (pe_bltn (v := .ty w) hgz hmz hvz rfl hnz hdz) pa_nil hs4) hs3)) pa_nil hs2) hs) (by decide) (by decide) hs hpl, sn_isi2 hu hw ha.s⟩
end
end Dl
end
section
set_option Elab.async false
set_option linter.all false
set_option maxRecDepth 100000
set_option maxHeartbeats 4000000
namespace Dl
open PySem PySem.Spec PyProof.Rows L2 StX

/-! what is walked -/
section
variable {K : PySem.W.Frag} {c : Option Addr} {I : Hp}
theorem yl_list {a : Addr} {xs : List V} {ds : List D} (h : I a = some (.lst xs)) (r : RepL K c I xs ds) : Yl K c (Itl K a) I ds := fun I2 H2 sb s => by
  have h2 := sb _ _ h
  have hq : SqL K H2 a xs := .of (s.lst h2)
  refine ⟨fun i d e => ?_, ⟨xs, hq, by rw [r.length]; exact Nat.le_refl _⟩⟩
  obtain ⟨v, hv, rv⟩ := r.get e
  refine ⟨⟨xs, v, hq, hv⟩, fun x H3 hy => ?_⟩
  obtain ⟨rfl, hy⟩ := hy
  have := hy xs hq
  rw [hv] at this
  cases this
  exact ⟨I2, .refl s, rv.mono sb⟩
theorem yl_tup {a : Addr} {xs : List V} {ds : List D} (h : SqT K I a xs) (r : RepL K c I xs ds) : Yl K c (Itt K a) I ds := fun I2 H2 sb s => by
  have hq : SqT K H2 a xs := s.sqT (sb_sqT sb h)
  refine ⟨fun i d e => ?_, ⟨xs, hq, by rw [r.length]; exact Nat.le_refl _⟩⟩
  obtain ⟨v, hv, rv⟩ := r.get e
  refine ⟨⟨xs, v, hq, hv⟩, fun x H3 hy => ?_⟩
  obtain ⟨rfl, hy⟩ := hy
  have := hy xs hq
  rw [hv] at this
  cases this
  exact ⟨I2, .refl s, rv.mono sb⟩
def rngL (lo : Int) (n : Nat) : List D := (List.range n).map fun i => .int (lo + (i : Nat))
theorem yl_rng {lo : Int} {n : Nat} : Yl K c (Itr lo n) I (rngL lo n) := fun I2 H2 sb s => by
  refine ⟨fun i d e => ?_, by show n ≤ _; simp [rngL]⟩
  unfold rngL at e
  rw [List.getElem?_map] at e
  obtain ⟨j, hj, rfl⟩ := map_some_of e
  have hlt : i < n := by
    have := (List.getElem?_eq_some_iff.mp hj).1
    simpa using this
  rw [List.getElem?_range hlt] at hj
  cases hj
  refine ⟨hlt, fun x H3 hy => ?_⟩
  obtain ⟨rfl, rfl⟩ := hy
  exact ⟨I2, .refl s, .int _⟩
def chL (x : Str) : List D := x.cps.toList.map fun k => .str ⟨#[k]⟩
theorem yl_str {x : Str} : Yl K c (Its x) I (chL x) := fun I2 H2 sb s => by
  refine ⟨fun i d e => ?_, by show x.cps.size ≤ _; simp [chL]⟩
  unfold chL at e
  rw [List.getElem?_map] at e
  obtain ⟨j, hj, rfl⟩ := map_some_of e
  have hlt : i < x.cps.size := by
    have := (List.getElem?_eq_some_iff.mp hj).1
    simpa using this
  refine ⟨hlt, fun y H3 hy => ?_⟩
  obtain ⟨rfl, k, hk, rfl⟩ := hy
  have : some j = some k := by rw [← hj, ← hk]; simp
  cases this
  exact ⟨I2, .refl s, .str _⟩
end
def dItL (da : Dn) : Da := fun ρ s => (da ρ s).bind fun p => match p.1 with
  | .lst xs => some (xs, p.2)
  | _ => none
def dItT (da : Dn) : Da := fun ρ s => (da ρ s).bind fun p => p.1.asT.map fun xs => (xs, p.2)
def dItS (da : Dn) : Da := fun ρ s => (da ρ s).bind fun p => match p.1 with
  | .str x => some (chL x, p.2)
  | _ => none
def dRng1 (da : Da) : Da := fun ρ s => (da ρ s).bind fun p => match p.1 with
  | [.int j] => if decide (-1000000 ≤ j ∧ j ≤ 1000000) = true then some (rngL 0 j.toNat, p.2) else none
  | _ => none
def dRng2 (da : Da) : Da := fun ρ s => (da ρ s).bind fun p => match p.1 with
  | [.int i, .int j] => if decide (-1000000 ≤ i ∧ i ≤ 1000000 ∧ -1000000 ≤ j ∧ j ≤ 1000000) = true then some (rngL i (j - i).toNat, p.2) else none
  | _ => none
section
variable {K : PySem.W.Frag} {te : TE} {da : Dn} {tx : TA} {ax : Da}
theorem si_list (h1 : SndE K te da) : SndI K (iList K te) (dItL da) := fun c I H σ ρ s xs s' e h R q => by
  obtain ⟨⟨x, s1⟩, h2, h⟩ := bind_some_of h
  refine h1 _ _ _ _ _ _ _ _ e h2 _ fun v I1 H1 g1 w1 r1 => ?_
  cases r1 with
  | lst hl rl => cases h; exact ⟨_, rfl, ⟨_, .of (g1.s2.lst hl)⟩, q _ I1 H1 g1 w1 (yl_list hl rl)⟩
  | _ => cases h
theorem si_tup (h1 : SndE K te da) : SndI K (iTup K te) (dItT da) := fun c I H σ ρ s xs s' e h R q => by
  obtain ⟨⟨x, s1⟩, h2, h⟩ := bind_some_of h
  obtain ⟨ds, h3, h⟩ := map_some_of h
  cases h
  refine h1 _ _ _ _ _ _ _ _ e h2 _ fun v I1 H1 g1 w1 r1 => ?_
  obtain ⟨a, vs, rfl, ha, ra⟩ := r1.asT h3
  exact ⟨_, rfl, ⟨_, g1.s2.sqT ha⟩, q _ I1 H1 g1 w1 (yl_tup ha ra)⟩
theorem si_str (h1 : SndE K te da) : SndI K (iStr te) (dItS da) := fun c I H σ ρ s xs s' e h R q => by
  obtain ⟨⟨x, s1⟩, h2, h⟩ := bind_some_of h
  refine h1 _ _ _ _ _ _ _ _ e h2 _ fun v I1 H1 g1 w1 r1 => ?_
  cases r1 with
  | str x => cases h; exact ⟨_, rfl, q _ I1 H1 g1 w1 yl_str⟩
  | _ => cases h
theorem si_rng1 (h1 : SndA K tx ax) : SndI K (iRng1 tx) (dRng1 ax) := fun c I H σ ρ s xs s' e h R q => by
  obtain ⟨⟨x, s1⟩, h2, h⟩ := bind_some_of h
  refine h1 _ _ _ _ _ _ _ _ e h2 _ fun v I1 H1 g1 w1 r1 => ?_
  split at h
  · rename_i j hj
    split at h
    · rename_i hb
      have hb := of_decide_eq_true hb
      cases h
      have hj' : x = [D.int j] := hj
      subst hj'
      cases r1 with
      | cons a r => cases r; cases a; exact ⟨j, rfl, by omega, by omega, q _ I1 H1 g1 w1 yl_rng⟩
    · cases h
  · cases h
theorem si_rng2 (h1 : SndA K tx ax) : SndI K (iRng2 tx) (dRng2 ax) := fun c I H σ ρ s xs s' e h R q => by
  obtain ⟨⟨x, s1⟩, h2, h⟩ := bind_some_of h
  refine h1 _ _ _ _ _ _ _ _ e h2 _ fun v I1 H1 g1 w1 r1 => ?_
  split at h
  · rename_i i j hj
    split at h
    · rename_i hb
      have hb := of_decide_eq_true hb
      cases h
      have hj' : x = [D.int i, D.int j] := hj
      subst hj'
      cases r1 with
      | cons a r => cases r with
        | cons b r => cases r; cases a; cases b; exact ⟨i, j, rfl, ⟨by omega, by omega, by omega, by omega⟩, q _ I1 H1 g1 w1 yl_rng⟩
    · cases h
  · cases h
end
section
variable {X : Cx} {tg e a b : Expr} {te : TE} {da : Dn} {tx : TA} {ax : Da} {p pos : Pos}
theorem ei_list (h : EE X e te da) : EI X tg e (iList X.K te) (dItL da) := ⟨pi_list h.p, si_list h.s⟩
theorem ei_tup (h : EE X e te da) : EI X tg e (iTup X.K te) (dItT da) := ⟨pi_tup h.p, si_tup h.s⟩
theorem ei_str (h : EE X e te da) : EI X tg e (iStr te) (dItS da) := ⟨pi_str h.p, si_str h.s⟩
theorem ei_rng1 (hg : Gl X "range") (hm : X.mg "range" = none) (ha : EA X [a] tx ax) (hs : starEach [a] X.env = [(false, eval a X.env)] := by rfl) : EI X tg (.Call (.Name "range" p) [a] [] pos) (iRng1 tx) (dRng1 ax) := ⟨pi_range1 hg hm ha.p hs, si_rng1 ha.s⟩
theorem ei_rng2 (hg : Gl X "range") (hm : X.mg "range" = none) (ha : EA X [a, b] tx ax) (hs : starEach [a, b] X.env = [(false, eval a X.env), (false, eval b X.env)] := by rfl) (hs2 : starEach [b] X.env = [(false, eval b X.env)] := by rfl) :
    EI X tg (.Call (.Name "range" p) [a, b] [] pos) (iRng2 tx) (dRng2 ax) := ⟨pi_range2 hg hm ha.p hs hs2, si_rng2 ha.s⟩
theorem et_chain {op op' : CmpOp} {r r' : R2} {f g : D → D → Option D} {x y z : Expr} {t1 t2 t3 : TE} {d1 d2 d3 : Dn} (h : CM X op r f) (h' : CM X op' r' g) (ha : EE X x t1 d1) (hb : EE X y t2 d2) (hc : EE X z t3 d3) (hm : lastMarks [op, op'] [y, z] = false := by with_unfolding_all rfl) :
    ET X (.Compare x [op, op'] [y, z] pos) (tTest (tChain r r' t1 t2 t3)) (dB (dChain f g d1 d2 d3)) := ⟨pt_chain h.o h'.o ha.p hb.p hc.p hm, sn_test (sn_chain ha.s hb.s hc.s h.s h'.s)⟩
end

/-! comprehensions -/
def wipeD (ρ : List Sl) : List Nat → List Sl
  | [] => ρ
  | v :: vs => (wipeD ρ vs).set v .un
section
variable {K : PySem.W.Frag} {c : Option Addr} {I H : Hp}
theorem SlL.wipe {σ : L2.St} {ρ : List Sl} (h : SlL K c I H σ ρ) : ∀ vs, SlL K c I H (L2.wipe σ vs) (wipeD ρ vs)
  | [] => h
  | v :: vs => .set (.un _) v (SlL.wipe h vs)
theorem Uq.wipe {σ : L2.St} {ρ : List Sl} (h : Uq σ ρ) : ∀ vs, Uq (L2.wipe σ vs) (wipeD ρ vs)
  | [] => h
  | v :: vs => (Uq.wipe h vs).setI fun _ z => by cases z
theorem Ec.wipe {σ : L2.St} {ρ : List Sl} {s : Tau} (e : Ec K c I H σ ρ s) (vs : List Nat) : Ec K c I H (L2.wipe σ vs) (wipeD ρ vs) s := ⟨e.sub, e.w, e.sl.wipe vs, e.uq.wipe vs⟩
theorem wipe_get (σ : L2.St) (k : Nat) : ∀ vs : List Nat, (L2.wipe σ vs)[k]? = if k ∈ vs ∧ k < σ.length then some none else σ[k]?
  | [] => by simp [L2.wipe]
  | v :: vs => by
    show ((L2.wipe σ vs).set v none)[k]? = _
    rw [List.getElem?_set, wipe_get σ k vs, L2.wipe_length]
    by_cases h : v = k
    · subst h
      by_cases h2 : v < σ.length
      · simp [h2]
      · simp [h2]
    · have : k ≠ v := fun z => h z.symm
      simp [h, this]
theorem wipe_wipe {σ σ' : L2.St} {vs js : List Nat} (hl : σ'.length = (L2.wipe σ vs).length) (hk : ∀ k, k ∉ js → σ'[k]? = (L2.wipe σ vs)[k]?) (hj : ∀ k ∈ js, k ∈ vs) : L2.wipe σ' vs = L2.wipe σ vs := by
  rw [L2.wipe_length] at hl
  apply List.ext_getElem?
  intro k
  rw [wipe_get, wipe_get, hl]
  by_cases h : k ∈ vs ∧ k < σ.length
  · rw [if_pos h, if_pos h]
  · rw [if_neg h, if_neg h]
    by_cases h2 : k ∈ js
    · have h3 := hj k h2
      have h4 : ¬ k < σ.length := fun z => h ⟨h3, z⟩
      rw [List.getElem?_eq_none (by omega), List.getElem?_eq_none (by omega)]
    · rw [hk k h2, wipe_get, if_neg h]
end
def lcGo (g : Dg) (bt : Dt) (de : Dn) (ρ : List Sl) : List D → Tau → Option (List D × Tau)
  | [], s => some ([], s)
  | x :: xs, s => (g x ρ).bind fun ρ1 => (bt ρ1 s).bind fun b => if b.1 = true then (de ρ1 b.2).bind fun y => (lcGo g bt de ρ xs y.2).map fun r => (y.1 :: r.1, r.2) else lcGo g bt de ρ xs b.2
theorem lcGo_len {g : Dg} {bt : Dt} {de : Dn} {ρ : List Sl} : ∀ {xs : List D} {s : Tau} {ys : List D} {s' : Tau}, lcGo g bt de ρ xs s = some (ys, s') → ys.length ≤ xs.length
  | [], s, ys, s', h => by cases h; exact Nat.le_refl _
  | x :: xs, s, ys, s', h => by
    obtain ⟨ρ1, _, h⟩ := bind_some_of h
    obtain ⟨⟨b, s1⟩, _, h⟩ := bind_some_of h
    split at h
    · obtain ⟨⟨y, s2⟩, _, h⟩ := bind_some_of h
      obtain ⟨⟨r, s3⟩, h3, h⟩ := map_some_of h
      cases h
      have := lcGo_len h3
      simp only [List.length_cons]; omega
    · have := lcGo_len h
      simp only [List.length_cons]; omega
def dLc (di : Da) (g : Dg) (bt : Dt) (de : Dn) (vs : List Nat) : Dn := fun ρ s => (di ρ s).bind fun p => if p.1.length ≤ 1000000 then (lcGo g bt de (wipeD ρ vs) p.1 p.2).map fun r => (.lst r.1, r.2) else none
def dYes : Dt := fun _ s => some (true, s)
theorem sn_yes {K : PySem.W.Frag} : SndT K tYes dYes := fun c I H σ ρ s b s' e h Q q => by
  cases h
  exact q _ _ (.refl e.sub) e.w
/-- what is walked, where nothing but the draws' list changes -/
def YlK (K : PySem.W.Frag) (c : Option Addr) (J : It) (I H : Hp) (xs : List D) : Prop := ∀ I2 H2, Sb I I2 → Sub I2 H2 → Kp c H H2 →
  (∀ (i : Nat) (d : D), xs[i]? = some d → J.go i H2 ∧ ∀ x H3, J.yld i H2 x H3 → ∃ I3, Gr none I2 H2 I3 H3 ∧ Rep K c I3 x d) ∧ J.stop xs.length H2
theorem lc_core {K : PySem.W.Frag} {wi : TI} {di : Da} {g : TG} {dg : Dg} {js vs : List Nat} {tt : TT} {bt : Dt} {te : TE} {de : Dn} (hg : SndG K g dg js) (hj : ∀ k ∈ js, k ∈ vs) (ht : SndT K tt bt) (he : SndE K te de)
    {c : Option Addr} {I H : Hp} {σ : L2.St} {ρ : List Sl} {s s' : Tau} {d : D} (e : Ec K c I H σ ρ s) (hi : ∀ xs s1, di ρ s = some (xs, s1) → ∀ R : It → Hp → Prop, (∀ J I' H', Gr c I H I' H' → DW K c s1 I' H' → YlK K c J I' H' xs → R J H') → wi σ H R)
    (h : dLc di dg bt de vs ρ s = some (d, s')) (Q : VK) (q : ∀ v I' H', Gr c I H I' H' → DW K c s' I' H' → Rep K c I' v d → Q v H') : tLc wi g tt te vs σ H Q := by
  obtain ⟨⟨xs, s1⟩, h1, h⟩ := bind_some_of h
  split at h
  · rename_i hlen
    have hlen : xs.length ≤ 1000000 := hlen
    obtain ⟨⟨ys, s2⟩, h2, h⟩ := map_some_of h
    cases h
    refine hi _ _ h1 _ fun J I1 H1 g1 w1 yl => fun Dl hD => ?_
    have ci : ∀ {o}, c ≠ some Dl ∨ o := fun {o} => by
      by_cases z : c = some Dl
      · obtain ⟨_, sc, z2, _⟩ := w1 Dl z
        rw [hD] at z2; cases z2
      · exact .inl z
    have cD : c ≠ some Dl := (ci (o := False)).elim id False.elim
    refine ⟨fun i m H' => m = xs.length - i ∧ i ≤ xs.length ∧ ∃ I' acc pre rest s3, Gr c I1 H1 I' H' ∧ I' Dl = none ∧ DW K c s3 I' H' ∧ H' Dl = some (.lst acc) ∧ RepL K c I' acc pre ∧ acc.length ≤ i ∧ lcGo dg bt de (wipeD ρ vs) (xs.drop i) s3 = some (rest, s2) ∧ pre ++ rest = ys, ?_, ?_⟩
    · have hI := g1.s2.free hD
      have s2' : Sub I1 (upd H1 Dl (.lst [])) := fun a o z => by
        have n : a ≠ Dl := ne_of_none z hI
        rw [upd_ne n]
        exact g1.s2 a o z
      refine ⟨xs.length, by simp, Nat.zero_le _, I1, [], [], ys, s1, ⟨.refl _, s2', fun a o _ z => by rw [upd_ne (ne_of_none z hD)]; exact z, fun a z => .inl z⟩, hI, ?_, upd_same, .nil, Nat.le_refl _, by simpa using h2, rfl⟩
      intro r hr
      obtain ⟨z1, sc, z2, z3⟩ := w1 r hr
      exact ⟨z1, sc, by rw [upd_ne (ne_of_none z2 hD)]; exact z2, z3⟩
    · rintro i m H' ⟨rfl, hle, I', acc, pre, rest, s3, g', hID, w', hDl, racc, hal, hgo, hy⟩
      have kI : Kp c H1 H' := g'.kp
      obtain ⟨y1, y2⟩ := yl I' H' g'.s1 g'.s2 kI
      by_cases hlt : i < xs.length
      · obtain ⟨go, yld⟩ := y1 i xs[i] (List.getElem?_eq_getElem hlt)
        rw [List.drop_eq_getElem_cons hlt] at hgo
        obtain ⟨ρ1, hx, hgo⟩ := bind_some_of hgo
        obtain ⟨⟨b, s4⟩, hb, hgo⟩ := bind_some_of hgo
        refine .inr ⟨go, fun H'' => ∃ I'' acc pre rest s3, Gr c I1 H1 I'' H'' ∧ I'' Dl = none ∧ DW K c s3 I'' H'' ∧ H'' Dl = some (.lst acc) ∧ RepL K c I'' acc pre ∧ acc.length ≤ i + 1 ∧ lcGo dg bt de (wipeD ρ vs) (xs.drop (i + 1)) s3 = some (rest, s2) ∧ pre ++ rest = ys, fun H'' ⟨I'', a1, a2, a3, a4, z⟩ => ⟨xs.length - (i + 1), by omega, rfl, hlt, I'', a1, a2, a3, a4, z⟩, fun x H3 hyl => ?_⟩
        obtain ⟨I3, g3, r3⟩ := yld x H3 hyl
        have w3 := w'.gr g3
        have g13 := g'.tr w' (g3.up (c := c))
        have fr : ∀ {Ia Ha Ib Hb : Hp}, Gr c Ia Ha Ib Hb → Ia Dl = none → Ha Dl = some (.lst acc) → Ib Dl = none ∧ Hb Dl = some (.lst acc) := fun {Ia Ha Ib Hb} gg z1 z2 => by
          refine ⟨?_, gg.kp _ _ cD z2⟩
          cases qq : Ib Dl with
          | none => rfl
          | some o =>
            rcases gg.nw Dl (by rw [qq]; simp) with z | z
            · exact absurd z1 z
            · rw [z2] at z; cases z
        obtain ⟨f3, k3⟩ := fr (g3.up (c := c)) hID hDl
        have e3 : Ec K c I3 H3 (L2.wipe σ vs) (wipeD ρ vs) s3 := ((e.grow g1 w1).grow g13 w3).wipe vs
        refine hg _ _ _ _ _ _ _ _ _ e3 r3 hx _ fun σ4 e4 l4 n4 _ => ⟨wipe_wipe l4 n4 hj, ?_⟩
        refine ht _ _ _ _ _ _ _ _ e4 hb _ fun I5 H5 g5 w5 => ?_
        obtain ⟨f5, k5⟩ := fr g5 f3 k3
        have g15 := g13.tr w3 g5
        cases b with
        | false =>
          rw [if_neg Bool.false_ne_true]
          rw [if_neg (show ¬ (false, s4).1 = true from Bool.false_ne_true)] at hgo
          exact ⟨I5, acc, pre, rest, s4, g15, f5, w5, k5, (racc.mono g3.s1).mono g5.s1, by omega, hgo, hy⟩
        | true =>
          rw [if_pos rfl]
          rw [if_pos (show (true, s4).1 = true from rfl)] at hgo
          obtain ⟨⟨y, s6⟩, hye, hgo⟩ := bind_some_of hgo
          obtain ⟨⟨rest', s7⟩, hgo2, hr⟩ := map_some_of hgo
          cases hr
          refine he _ _ _ _ _ _ _ _ (e4.grow g5 w5) hye _ fun yv I6 H6 g6 w6 r6 => ?_
          obtain ⟨f6, k6⟩ := fr g6 f5 k5
          have g16 := g15.tr w5 g6
          refine ⟨acc, k6, ?_, I6, acc ++ [yv], pre ++ [y], rest', s6, ?_, f6, ?_, upd_same, (((racc.mono g3.s1).mono g5.s1).mono g6.s1).app (.one r6), by rw [List.length_append]; simp only [List.length_cons, List.length_nil]; omega, hgo2, by rw [List.append_assoc]; exact hy⟩
          · refine Nat.lt_of_le_of_lt (show acc.length ≤ 1000000 by omega) (by decide)
          · refine ⟨g16.s1, fun a o z => ?_, fun a o n z => ?_, g16.nw⟩
            · rw [upd_ne (ne_of_none z f6)]; exact g16.s2 a o z
            · rw [upd_ne (ne_of_none z hD)]; exact g16.kp a o n z
          · intro r hr
            obtain ⟨z1, sc, z2, z3⟩ := w6 r hr
            have n : r ≠ Dl := fun z => cD (by rw [hr, z])
            exact ⟨z1, sc, by rw [upd_ne n]; exact z2, z3⟩
      · have ei : i = xs.length := by omega
        subst ei
        rw [List.drop_length] at hgo
        cases hgo
        rw [List.append_nil] at hy
        subst hy
        refine .inl ⟨y2, ?_⟩
        have sI : Sb I' (upd I' Dl (.lst acc)) := fun a o z => by rw [upd_ne (ne_of_none z hID)]; exact z
        refine q _ (upd I' Dl (.lst acc)) H' (g1.tr w1 ⟨g'.s1.trans sI, fun a o z => ?_, g'.kp, fun a z => ?_⟩) ?_ (.lst upd_same (racc.mono sI))
        · by_cases n : a = Dl
          · subst n; rw [upd_same] at z; cases z; exact .inl hDl
          · rw [upd_ne n] at z; exact g'.s2 a o z
        · by_cases n : a = Dl
          · subst n; exact .inr hD
          · rw [upd_ne n] at z; exact g'.nw a z
        · intro r hr
          obtain ⟨z1, sc, z2, z3⟩ := w' r hr
          have n : r ≠ Dl := fun z => cD (by rw [hr, z])
          exact ⟨by rw [upd_ne n]; exact z1, sc, z2, sb_sqL sI z3⟩
  · cases h
theorem sn_lc {K : PySem.W.Frag} {wi : TI} {di : Da} {g : TG} {dg : Dg} {js vs : List Nat} {tt : TT} {bt : Dt} {te : TE} {de : Dn} (hi : SndI K wi di) (hg : SndG K g dg js) (hj : ∀ k ∈ js, k ∈ vs) (ht : SndT K tt bt) (he : SndE K te de) : SndE K (tLc wi g tt te vs) (dLc di dg bt de vs) := fun c I H σ ρ s d s' e h Q q =>
  lc_core hg hj ht he e (fun xs s1 h1 R r => hi _ _ _ _ _ _ _ _ e h1 R fun J I' H' g w y => r J I' H' g w fun I2 H2 a b _ => y I2 H2 a b) h Q q
end Dl
end
section
set_option Elab.async false
set_option linter.all false
set_option maxRecDepth 100000
set_option maxHeartbeats 4000000
namespace Dl
open PySem PySem.Spec PyProof.Rows L2 StX

/-! statements -/
section
variable {X : Cx} {st : Stmt} {sts : List Stmt} {t u : TS} {a b : Ds} {e : Expr} {te : TE} {da : Dn} {pos : Pos}
theorem ess_nil : ESs X [] tNext dNext := ⟨pss_nil, ss_next⟩
theorem ess_cons (h1 : ES X st t a) (h2 : ESs X sts u b) : ESs X (st :: sts) (tSeq t u) (dSeq a b) := ⟨pss_cons h1.p h2.p, ss_seq h1.s h2.s⟩
theorem ess_one (h1 : ES X st t a) : ESs X [st] t a := ⟨pss_one h1.p, h1.s⟩
theorem es_expr (he : EE X e te da) (hs : swapsWith e none pos.line X.env = pure false := by rfl) : ES X (.Expr e pos) (tDrop te) (dDrop da) := ⟨ps_expr he.p hs, ss_drop he.s⟩
theorem es_ret (he : EE X e te da) : ES X (.Return (some e) pos) (tRet te) (dRet da) := ⟨ps_ret he.p, ss_ret he.s⟩
theorem es_retN : ES X (.Return none pos) tRetN dRetN := ⟨ps_retN, ss_retN⟩
theorem es_if {c : Expr} {x y : List Stmt} {tc : TT} {bt : Dt} (hc : ET X c tc bt) (ha : ESs X x t a) (hb : ESs X y u b) : ES X (.If c x y pos) (tIfS tc t u) (dIfS bt a b) := ⟨ps_if hc.p ha.p hb.p, ss_if hc.s ha.s hb.s⟩
theorem es_never : ES X st tNever dNever := ⟨ps_never, ss_never⟩
theorem ess_never : ESs X sts tNever dNever := ⟨pss_never, ss_never⟩
theorem es_asg {tg : Expr} {g : TG} {dg : Dg} {js : List Nat} (he : EE X e te da) (hg : EG X tg g dg js) (hs : swapsWithSole [tg] e pos.line X.env = pure false := by rfl) (hw : swappedStores [tg] e X.env = pure none := by rfl) (h1 : (assignEach [tg] X.env).map (fun z => z.2) = [assign tg X.env] := by rfl) : ES X (.Assign [tg] e pos) (tAsg te g) (dAsg da dg) :=
  ⟨ps_asg he.p hg.p hs hw h1, ss_asg he.s hg.s⟩
theorem es_set {i : Nat} {x : Str} {pos' : Pos} (hN : X.N.Nodup) (hi : X.N[i]? = some x) (hx : Loc X.env.scope x) (he : EE X e te da) (hs : swapsWith e (some (.Name x pos')) pos.line X.env = pure false := by rfl) (hf : X.fn x = true ∨ X.env.scope.names.lookup x = some .local := by first | exact .inl rfl | exact .inr rfl) :
    ES X (.Assign [.Name x pos'] e pos) (tAsg te (gName i)) (dAsg da (gdName i)) := ⟨ps_set hN hi hx he.p hs hf, ss_asg he.s (sg_name i)⟩
theorem es_for {tg it : Expr} {body : List Stmt} {wi : TI} {di : Da} {g : TG} {dg : Dg} {js : List Nat} (hp : PassesOwn (model X.prog X.w) X.A X.env X.xe) (hc : X.calm = true) (hi : EI X tg it wi di) (hg : EG X tg g dg js) (hb : ESs X body t b) (hfs : ∀ x, foldedSetIterable it X.env x = pure x := by intro _; rfl) :
    ES X (.For tg it body [] pos) (tFor wi g t) (dFor di dg b) := ⟨ps_for hp hc hi.p hg.p hb.p hfs, ss_for hi.s hg.s hb.s⟩
/-- a, b = x, y by plain local names -/
def dPar (i j : Nat) (ax : Da) : Ds := fun ρ s => (ax ρ s).bind fun p => match p.1 with
  | [x, y] => some (.nx ((ρ.set i (.im x)).set j (.im y)), p.2)
  | _ => none
def dPar3 (i j l : Nat) (ax : Da) : Ds := fun ρ s => (ax ρ s).bind fun p => match p.1 with
  | [x, y, z] => some (.nx (((ρ.set i (.im x)).set j (.im y)).set l (.im z)), p.2)
  | _ => none
theorem EnvS.setI {K : PySem.W.Frag} {c : Option Addr} {I0 H0 I H : Hp} {σ : L2.St} {ρ : List Sl} {s : Tau} {v : V} {d : D} (e : EnvS K c I0 H0 I H σ ρ s) (r : Rep K c I v d) (i : Nat) : EnvS K c I0 H0 I H (σ.set i (some v)) (ρ.set i (.im d)) s :=
  ⟨e.env.setI r i, e.s0, e.kp, e.nw, fun j p d' h1 h2 => by
    by_cases z : i = j
    · subst z
      rw [List.getElem?_set] at h2
      simp only [if_true] at h2
      split at h2 <;> cases h2
    · rw [List.getElem?_set_ne z] at h1 h2
      exact e.fr j p d' h1 h2, e.nc⟩
theorem ss_par {K : PySem.W.Frag} {tx : TA} {ax : Da} (i j : Nat) (hx : SndA K tx ax) : SndS K (tPar i j tx) (dPar i j ax) := fun c I0 H0 I H σ ρ s o s' e h D q => by
  obtain ⟨⟨x, s1⟩, ha, h⟩ := bind_some_of h
  refine hx _ _ _ _ _ _ _ _ e.env ha _ fun v I1 H1 g1 w1 r1 => ?_
  split at h
  · rename_i p q1 q2 hq
    have hq : x = [q1, q2] := hq
    subst hq
    cases h
    cases r1 with
    | cons ra r => cases r with
      | cons rb r => cases r; exact ⟨_, _, rfl, q _ I1 H1 (((e.grow g1 w1).setI ra i).setI rb j)⟩
  · cases h
theorem ss_par3 {K : PySem.W.Frag} {tx : TA} {ax : Da} (i j l : Nat) (hx : SndA K tx ax) : SndS K (tPar3 i j l tx) (dPar3 i j l ax) := fun c I0 H0 I H σ ρ s o s' e h D q => by
  obtain ⟨⟨x, s1⟩, ha, h⟩ := bind_some_of h
  refine hx _ _ _ _ _ _ _ _ e.env ha _ fun v I1 H1 g1 w1 r1 => ?_
  split at h
  · rename_i p q1 q2 q3 hq
    have hq : x = [q1, q2, q3] := hq
    subst hq
    cases h
    cases r1 with
    | cons ra r => cases r with
      | cons rb r => cases r with
        | cons rc r => cases r; exact ⟨_, _, _, rfl, q _ I1 H1 ((((e.grow g1 w1).setI ra i).setI rb j).setI rc l)⟩
  · cases h
theorem es_par {i j : Nat} {x y : Str} {e1 e2 : Expr} {tx : TA} {ax : Da} {px py pt pt2 : Pos} {kt k2 : Nat} (hc : X.calm = true) (hN : X.N.Nodup) (hi : X.N[i]? = some x) (hj : X.N[j]? = some y) (hij : i ≠ j)
    (hx : X.env.scope.names.lookup x = some .local) (hy : X.env.scope.names.lookup y = some .local) (ha : EA X [e1, e2] tx ax)
    (hw : swappedStores [.Tuple [.Name x px, .Name y py] kt pt] (.Tuple [e1, e2] k2 pt2) X.env = pure (some [x, y]) := by rfl)
    (hs : swapsWithSole [.Tuple [.Name x px, .Name y py] kt pt] (.Tuple [e1, e2] k2 pt2) pos.line X.env = pure false := by rfl) :
    ES X (.Assign [.Tuple [.Name x px, .Name y py] kt pt] (.Tuple [e1, e2] k2 pt2) pos) (tPar i j tx) (dPar i j ax) := ⟨ps_par hc hN hi hj hij hx hy ha.p hw hs, ss_par i j ha.s⟩
end

/-! a comprehension in its def -/
section
variable {X : Cx}
structure EGb (X : Cx) (scope : Scope) (e : Expr) (g : TG) (dg : Dg) (js : List Nat) : Prop where
  p : ∀ (s : Shared) (H : Hp) (C : Addr) (cl : List (Str × Addr)) (fp : List Addr), PG (X.blk s H scope (compEnvC scope cl C X.env) fp) e g
  s : SndG X.K g dg js
structure ETb (X : Cx) (scope : Scope) (ifs : List Expr) (tt : TT) (bt : Dt) : Prop where
  p : ∀ (s : Shared) (H : Hp) (C : Addr) (cl : List (Str × Addr)) (fp : List Addr), PTs (X.blk s H scope (compEnvC scope cl C X.env) fp) ifs tt
  s : SndT X.K tt bt
structure EEb (X : Cx) (scope : Scope) (e : Expr) (te : TE) (de : Dn) : Prop where
  p : ∀ (s : Shared) (H : Hp) (C : Addr) (cl : List (Str × Addr)) (fp : List Addr), PE (X.blk s H scope (compEnvC scope cl C X.env) fp) e te
  s : SndE X.K te de
theorem egb_mk {scope : Scope} {e : Expr} {g : Shared → Hp → Addr → List (Str × Addr) → List Addr → TG} {dg : Dg} {js : List Nat} (h : ∀ (s : Shared) (H : Hp) (C : Addr) (cl : List (Str × Addr)) (fp : List Addr), EG (X.blk s H scope (compEnvC scope cl C X.env) fp) e (g s H C cl fp) dg js) (hg : ∀ (s : Shared) (H : Hp) (C : Addr) (cl : List (Str × Addr)) (fp : List Addr), g s H C cl fp = g X.s_0 (fun _ => none) 0 [] [] := by intros; rfl) : EGb X scope e (g X.s_0 (fun _ => none) 0 [] []) dg js :=
  ⟨fun s H C cl fp => hg s H C cl fp ▸ (h s H C cl fp).p, (h X.s_0 (fun _ => none) 0 [] []).s⟩
theorem etb_one {scope : Scope} {e : Expr} {tt : Shared → Hp → Addr → List (Str × Addr) → List Addr → TT} {bt : Dt} (h : ∀ (s : Shared) (H : Hp) (C : Addr) (cl : List (Str × Addr)) (fp : List Addr), ET (X.blk s H scope (compEnvC scope cl C X.env) fp) e (tt s H C cl fp) bt) (hg : ∀ (s : Shared) (H : Hp) (C : Addr) (cl : List (Str × Addr)) (fp : List Addr), tt s H C cl fp = tt X.s_0 (fun _ => none) 0 [] [] := by intros; rfl) : ETb X scope [e] (tt X.s_0 (fun _ => none) 0 [] []) bt :=
  ⟨fun s H C cl fp => hg s H C cl fp ▸ pts_one (h s H C cl fp).p, (h X.s_0 (fun _ => none) 0 [] []).s⟩
theorem etb_nil {scope : Scope} : ETb X scope [] tYes dYes := ⟨fun _ _ _ _ _ => pts_nil, sn_yes⟩
theorem eeb_mk {scope : Scope} {e : Expr} {te : Shared → Hp → Addr → List (Str × Addr) → List Addr → TE} {de : Dn} (h : ∀ (s : Shared) (H : Hp) (C : Addr) (cl : List (Str × Addr)) (fp : List Addr), EE (X.blk s H scope (compEnvC scope cl C X.env) fp) e (te s H C cl fp) de) (hg : ∀ (s : Shared) (H : Hp) (C : Addr) (cl : List (Str × Addr)) (fp : List Addr), te s H C cl fp = te X.s_0 (fun _ => none) 0 [] [] := by intros; rfl) : EEb X scope e (te X.s_0 (fun _ => none) 0 [] []) de :=
  ⟨fun s H C cl fp => hg s H C cl fp ▸ (h s H C cl fp).p, (h X.s_0 (fun _ => none) 0 [] []).s⟩
theorem ee_lc {elt tg iter : Expr} {ifs : List Expr} {scope : Scope} {own : List (Str × Nat)} {pos : Pos} {wi : TI} {di : Da} {g : TG} {dg : Dg} {js : List Nat} {tt : TT} {bt : Dt} {te : TE} {de : Dn} (hc : X.calm = true) (hN : X.N.Nodup) (hi : EI X tg iter wi di)
    (ok : blkC X.N X.env.scope scope own = true) (hg : EGb X scope tg g dg js) (ht : ETb X scope ifs tt bt) (he : EEb X scope elt te de) (hj : ∀ k ∈ js, k ∈ own.map (fun z => z.2) := by decide) (hs : ∀ x, foldedSetIterable iter X.env x = pure x := by intro _; rfl) :
    EE X (.ListComp elt [⟨tg, iter, ifs, 0⟩] scope pos) (tLc wi g tt te (own.map (fun z => z.2))) (dLc di dg bt de (own.map (fun z => z.2))) :=
  ⟨pe_lc hc hN hi.p (blkOk_by ok) hg.p ht.p he.p hs, sn_lc hi.s hg.s hj ht.s he.s⟩
/-- name = [..] on one line -/
theorem es_lc {i : Nat} {y : Str} {py : Pos} {elt tg iter : Expr} {ifs : List Expr} {scope : Scope} {own : List (Str × Nat)} {pos spos : Pos} {wi : TI} {di : Da} {g : TG} {dg : Dg} {js : List Nat} {tt : TT} {bt : Dt} {te : TE} {de : Dn} (hc : X.calm = true) (hN : X.N.Nodup) (hy : X.N[i]? = some y) (hyl : X.env.scope.names.lookup y = some .local)
    (hsw : swapsWith (.ListComp elt [⟨tg, iter, ifs, 0⟩] scope pos) (some (.Name y py)) spos.line X.env = pure true) (hi : EI X tg iter wi di)
    (ok : blkC X.N X.env.scope scope own = true) (hg : EGb X scope tg g dg js) (ht : ETb X scope ifs tt bt) (he : EEb X scope elt te de) (hj : ∀ k ∈ js, k ∈ own.map (fun z => z.2) := by decide) (hs : ∀ x, foldedSetIterable iter X.env x = pure x := by intro _; rfl) :
    ES X (.Assign [.Name y py] (.ListComp elt [⟨tg, iter, ifs, 0⟩] scope pos) spos) (tAsg (tLc wi g tt te (own.map (fun z => z.2))) (gName i)) (dAsg (dLc di dg bt de (own.map (fun z => z.2))) (gdName i)) :=
  ⟨ps_setLc hc hN hy hyl hsw hi.p (blkOk_by ok) hg.p ht.p he.p hs, ss_asg (sn_lc hi.s hg.s hj ht.s he.s) (sg_name i)⟩
end

/-! the draws -/
def dRw (i : Nat) (j : Nat) : Dn := fun ρ s => match ρ[i]? with
  | some (.im .rw) => (match j with
    | 0 => some (.sl s.ns, s)
    | 1 => some (.int s.a, s)
    | 2 => some (.int s.b, s)
    | 3 => some (.int s.c, s)
    | _ => none)
  | _ => none
def Tau.put (s : Tau) (j : Nat) (v : Int) : Option Tau := match j with
  | 1 => some { s with a := v }
  | 2 => some { s with b := v }
  | 3 => some { s with c := v }
  | _ => none
def dRwSet (i j : Nat) (da : Dn) : Ds := fun ρ s => (da ρ s).bind fun p => match p.1, ρ[i]? with
  | .int v, some (.im .rw) => (p.2.put j v).map fun s' => (.nx ρ, s')
  | _, _ => none
section
variable {K : PySem.W.Frag} {te : TE} {da : Dn}
theorem rw_at {c : Option Addr} {I H : Hp} {σ : L2.St} {ρ : List Sl} {s : Tau} {i : Nat} (e : Ec K c I H σ ρ s) (h : ρ[i]? = some (.im .rw)) : ∃ r sc, c = some r ∧ σ[i]? = some (some (V.ref r)) ∧ I r = none ∧ H r = some (.lst [.ref sc, .int s.a, .int s.b, .int s.c]) ∧ SqL K I sc (s.ns.map V.int) := by
  obtain ⟨v, h1, r1⟩ := e.imm h
  cases r1 with
  | rw hc =>
    obtain ⟨z1, sc, z2, z3⟩ := e.w _ hc
    exact ⟨_, sc, hc, h1, z1, z2, z3⟩
theorem sn_rw (i j : Nat) : SndE K (tOp (rIx K) (tVar i) (tC (.int (j : Nat)))) (dRw i j) := fun c I H σ ρ s d s' e h Q q => by
  unfold dRw at h
  split at h
  · rename_i hi
    obtain ⟨r, sc, hc, h1, hI, hH, hS⟩ := rw_at e hi
    refine ⟨_, h1, .inl ⟨r, [.ref sc, .int s.a, .int s.b, .int s.c], (j : Nat), ?_⟩⟩
    match j, h with
    | 0, h => cases h; exact ⟨_, rfl, rfl, .of hH, rfl, q _ I H (.refl e.sub) e.w (.sl hS)⟩
    | 1, h => cases h; exact ⟨_, rfl, rfl, .of hH, rfl, q _ I H (.refl e.sub) e.w (.int _)⟩
    | 2, h => cases h; exact ⟨_, rfl, rfl, .of hH, rfl, q _ I H (.refl e.sub) e.w (.int _)⟩
    | 3, h => cases h; exact ⟨_, rfl, rfl, .of hH, rfl, q _ I H (.refl e.sub) e.w (.int _)⟩
    | j + 4, h => cases h
  · cases h
theorem ss_rw (i j : Nat) (h1 : SndE K te da) : SndS K (tAsg te (gSub (tVar i) (tC (.int (j : Nat))) rSetL)) (dRwSet i j da) := fun c I0 H0 I H σ ρ s o s' e h D q => by
  obtain ⟨⟨x, s1⟩, ha, h⟩ := bind_some_of h
  refine h1 _ _ _ _ _ _ _ _ e.env ha _ fun v I1 H1 g1 w1 r1 => ?_
  split at h
  · rename_i k hk hi
    obtain ⟨s2, hp, h⟩ := map_some_of h
    cases h
    have hk : x = .int k := hk
    subst hk
    have e1 := e.grow g1 w1
    obtain ⟨r, sc, hc, hr, hI, hH, hS⟩ := rw_at e1.env hi
    cases r1
    have fin : ∀ zs, zs = [V.ref sc, .int s'.a, .int s'.b, .int s'.c] → s'.ns = s1.ns → D.nx σ (upd H1 r (.lst zs)) := fun zs hz hns => by
      subst hz
      refine q σ I1 _ (e1.grow ⟨.refl _, fun a o z => ?_, fun a o n z => ?_, fun a z => .inl z⟩ fun r' hr' => ?_)
      · rw [upd_ne (ne_of_none z hI)]; exact g1.s2 a o z
      · rw [upd_ne (fun z => n (by rw [hc, z]))]; exact z
      · rw [hc] at hr'
        cases hr'
        exact ⟨hI, sc, upd_same, by rw [hns]; exact hS⟩
    refine ⟨_, hr, r, _, (j : Nat), j, rfl, rfl, hH, ?_⟩
    match j, hp with
    | 1, hp => cases hp; exact ⟨rfl, fin _ rfl rfl⟩
    | 2, hp => cases hp; exact ⟨rfl, fin _ rfl rfl⟩
    | 3, hp => cases hp; exact ⟨rfl, fin _ rfl rfl⟩
  · cases h
end
section
variable {X : Cx} {te : TE} {da : Dn} {x : Str} {e : Expr} {p p2 p3 pos : Pos} {i j k : Nat}
theorem ee_rw (hN : X.N[i]? = some x := by rfl) (hv : Vis X.env.scope x := by first | exact Or.inl rfl | exact Or.inr (Or.inl rfl) | exact Or.inr (Or.inr rfl)) (hd : (x == ("__debug__" : Str)) = false := by decide) (hcd : (x == ("__classdict__" : Str)) = false := by decide) :
    EE X (.Subscript (.Name x p) (.Constant (.int (j : Nat)) k p2) pos) (tOp (rIx X.K) (tVar i) (tC (.int (j : Nat)))) (dRw i j) := ⟨pe_ix ix_seq (pe_var hN hv hd hcd) pe_int (fun _ _ => rfl), sn_rw i j⟩
theorem es_rw (he : EE X e te da) (hN : X.N[i]? = some x := by rfl) (hv : Vis X.env.scope x := by first | exact Or.inl rfl | exact Or.inr (Or.inl rfl) | exact Or.inr (Or.inr rfl)) (hd : (x == ("__debug__" : Str)) = false := by decide) (hcd : (x == ("__classdict__" : Str)) = false := by decide)
    (hs : swapsWithSole [.Subscript (.Name x p) (.Constant (.int (j : Nat)) k p2) p3] e pos.line X.env = pure false := by rfl) (hw : swappedStores [.Subscript (.Name x p) (.Constant (.int (j : Nat)) k p2) p3] e X.env = pure none := by rfl)
    (h1 : (assignEach [.Subscript (.Name x p) (.Constant (.int (j : Nat)) k p2) p3] X.env).map (fun z => z.2) = [assign (.Subscript (.Name x p) (.Constant (.int (j : Nat)) k p2) p3) X.env] := by rfl) :
    ES X (.Assign [.Subscript (.Name x p) (.Constant (.int (j : Nat)) k p2) p3] e pos) (tAsg te (gSub (tVar i) (tC (.int (j : Nat))) rSetL)) (dRwSet i j da) :=
  ⟨ps_asg he.p (pg_sub (pe_var hN hv hd hcd) pe_int set_list) hs hw h1, ss_rw i j he.s⟩
end

/-! defs -/
abbrev Fn := List D → Tau → Option ((D × Bool) × Tau)
def ResOk (K : PySem.W.Frag) (c : Option Addr) (I' H' H : Hp) (v : V) (d : D) : Bool → Prop
  | false => Rep K c I' v d
  | true => ∃ p, v = .ref p ∧ OwOk K c I' H' p d ∧ H p = none
def spG (K : PySem.W.Frag) (n : Nat) (f : Fn) : Sp := fun vs H Q _ => vs.length = n ∧ ∃ c I ds s d o s', RepL K c I vs ds ∧ Sub I H ∧ DW K c s I H ∧ f ds s = some ((d, o), s') ∧
  ∀ v I' H', Gr c I H I' H' → DW K c s' I' H' → ResOk K c I' H' H v d o → Q v H'
def fnD (m : Nat) (dn : Ds) : Fn := fun ds s => (dn (ds.map Sl.im ++ List.replicate (m - ds.length) .un) s).bind fun p => match p.1 with
  | .rt d o => some ((d, o), p.2)
  | .nx _ => some ((.non, false), p.2)
  | _ => none
def dCall (f : Fn) (ax : Da) : Dn := fun ρ s => (ax ρ s).bind fun p => (f p.1 p.2).map fun r => (r.1.1, r.2)
theorem OwOk.freeze {K : PySem.W.Frag} {c : Option Addr} {I H : Hp} {p : Addr} {d : D} (h : OwOk K c I H p d) (s : Sub I H) : ∃ o, I p = none ∧ c ≠ some p ∧ H p = some o ∧ Sub (upd I p o) H ∧ Sb I (upd I p o) ∧ Rep K c (upd I p o) (.ref p) d := by
  cases h with
  | @lst vs ds h1 h2 h3 h4 =>
    have sb : Sb I (upd I p (.lst vs)) := fun a o z => by rw [upd_ne (ne_of_none z h3)]; exact z
    refine ⟨_, h3, h4, h1, fun a o z => ?_, sb, .lst upd_same (h2.mono sb)⟩
    by_cases n : a = p
    · subst n; rw [upd_same] at z; cases z; exact .inl h1
    · rw [upd_ne n] at z; exact s a o z
  | @dS vs ds h1 h2 h3 h4 =>
    have sb : Sb I (upd I p (.dK vs)) := fun a o z => by rw [upd_ne (ne_of_none z h3)]; exact z
    refine ⟨_, h3, h4, h1, fun a o z => ?_, sb, .dS upd_same (h2.mono sb)⟩
    by_cases n : a = p
    · subst n; rw [upd_same] at z; cases z; exact .inl h1
    · rw [upd_ne n] at z; exact s a o z
theorem DW.more {K : PySem.W.Frag} {c : Option Addr} {s : Tau} {I H : Hp} {p : Addr} {o : HO} (w : DW K c s I H) (hc : c ≠ some p) (hI : I p = none) : DW K c s (upd I p o) H := fun r hr => by
  obtain ⟨z1, sc, z2, z3⟩ := w r hr
  have n : r ≠ p := fun z => hc (by rw [hr, z])
  exact ⟨by rw [upd_ne n]; exact z1, sc, z2, sb_sqL (fun a o z => by rw [upd_ne (ne_of_none z hI)]; exact z) z3⟩
theorem sn_call {K : PySem.W.Frag} {n : Nat} {f : Fn} {tx : TA} {ax : Da} (hx : SndA K tx ax) (hl : ∀ ρ s ds s', ax ρ s = some (ds, s') → ds.length = n) : SndE K (tCall (spG K n f) [] E0 tx) (dCall f ax) := fun c I H σ ρ s d s' e h Q q => by
  obtain ⟨⟨ds, s1⟩, h1, h⟩ := bind_some_of h
  obtain ⟨⟨⟨d1, o⟩, s2⟩, h2, h⟩ := map_some_of h
  cases h
  refine hx _ _ _ _ _ _ _ _ e h1 _ fun vs I1 H1 g1 w1 r1 => ?_
  show spG K n f (vs ++ []) H1 Q E0
  rw [List.append_nil]
  refine ⟨r1.length.trans (hl _ _ _ _ h1), c, I1, ds, s1, d1, o, s2, r1, g1.s2, w1, h2, fun v I' H' g w r => ?_⟩
  cases o with
  | false => exact q v I' H' (g1.tr w1 g) w r
  | true =>
    obtain ⟨p, rfl, hp, hn⟩ := r
    obtain ⟨u, hI, hc, hH, hs, sb, rp⟩ := hp.freeze g.s2
    refine q _ (upd I' p u) H' (g1.tr w1 ⟨g.s1.trans sb, hs, g.kp, fun a z => ?_⟩) (w.more hc hI) rp
    by_cases n : a = p
    · subst n; exact .inr hn
    · rw [upd_ne n] at z; exact g.nw a z
theorem len_nil : ∀ ρ s ds s', dNil ρ s = some (ds, s') → ds.length = 0 := fun ρ s ds s' h => by cases h; rfl
theorem len_cons {da : Dn} {ax : Da} {n : Nat} (h : ∀ ρ s ds s', ax ρ s = some (ds, s') → ds.length = n) : ∀ ρ s ds s', dCons da ax ρ s = some (ds, s') → ds.length = n + 1 := fun ρ s ds s' h1 => by
  obtain ⟨⟨x, s1⟩, _, h1⟩ := bind_some_of h1
  obtain ⟨⟨xs, s2⟩, h2, h1⟩ := map_some_of h1
  cases h1
  exact congrArg Nat.succ (h _ _ _ _ h2)
section
variable {X : Cx} {k : Nat} {f : Addr} {fd : FuncData} {ps : List Str} {fn : Fn} {x : Str} {e : Expr} {es : List Expr} {tx : TA} {ax : Da} {p pos : Pos} {n : Nat}
/-- a def that is called: all that is asked of it -/
structure Cd (P : Program) (w : World) (K : PySem.W.Frag) (mg : Str → Option Value) (base : Heap) (k : Nat) (x : Str) (n : Nat) (fn : Fn) : Prop where
  h : ∃ (f : Addr) (fd : FuncData) (ps : List Str), ps.length = n ∧ FnOk P w K mg base CX0 k f fd ps (spG K n fn) ∧ mg x = some (.ref f) ∧ PySem.W.keepIn K (.ref f) = true ∧ Binds K fd ps []
theorem ee_call {j : Nat} (F : Cd X.prog X.w X.K X.mg X.base k x n fn) (hr : Room j X.A) (hk : k ≤ j) (hg : Gl X x) (ha : EA X (e :: es) tx ax) (hl : ∀ ρ s ds s', ax ρ s = some (ds, s') → ds.length = n) (hdb : (x == ("__debug__" : Str)) = false := by decide)
    (he : starEach (e :: es) X.env = (false, eval e X.env) :: starEach es X.env := by rfl) (hpl : (backTo pos (starEach es X.env)).any (fun z => z.1) = false := by rfl) : EE X (.Call (.Name x p) (e :: es) [] pos) (tCall (spG X.K n fn) [] E0 tx) (dCall fn ax) := by
  obtain ⟨f, fd, ps, hn, G, gm, kp, b⟩ := F.h
  exact ⟨pe_call G (hr.mono hk) hg gm kp b .nil pass0 ha.p hdb he hpl, sn_call ha.s hl⟩
theorem ee_call0 {j : Nat} (F : Cd X.prog X.w X.K X.mg X.base k x 0 fn) (hr : Room j X.A) (hk : k ≤ j) (hg : Gl X x) (hdb : (x == ("__debug__" : Str)) = false := by decide) : EE X (.Call (.Name x p) [] [] pos) (tCall (spG X.K 0 fn) [] E0 tNil) (dCall fn dNil) := by
  obtain ⟨f, fd, ps, hn, G, gm, kp, b⟩ := F.h
  exact ⟨pe_call0 G (hr.mono hk) hg gm kp b .nil pass0 hdb, sn_call sn_nil len_nil⟩
end
section
variable {P : Program} {w : World} {K : PySem.W.Frag} {mg : Str → Option Value} {base : Heap} {x qual : Str} {params : Arguments} {body : List Stmt} {scope : Scope} {f : Addr} {fd : FuncData}
theorem slL_start {c : Option Addr} {I H : Hp} : ∀ {vs : List V} {ds : List D} (m : Nat), RepL K c I vs ds → SlL K c I H (vs.map some ++ List.replicate m none) (ds.map Sl.im ++ List.replicate m .un)
  | _, _, 0, .nil => .nil
  | _, _, m + 1, .nil => .cons (.un _) (slL_start m .nil)
  | _, _, m, .cons a r => .cons (.im a) (slL_start m r)
theorem start_im {ds : List D} {m i : Nat} {d : D} (h : (ds.map Sl.im ++ List.replicate m Sl.un)[i]? = some (Sl.ow d)) : False := by
  rcases List.mem_append.mp (List.mem_of_getElem? h) with z | z
  · obtain ⟨_, _, q⟩ := List.mem_map.mp z
    cases q
  · cases (List.eq_of_mem_replicate z)
/-- THE RULE for a def: from its body -/
theorem fn_ok {N ps : List Str} {k : Nat} {dn : Ds} (F : FunD K x qual params body scope [] [] f fd) (S : FnScope N ps scope)
    (hb : ∀ (cdv : Value) (A : Around) (outer : List PySem.Env) (s : Shared) (H : Hp) (E : XK), Room k (A.deeper (envOfC qual scope s.heap.objs.size f cdv)) → ∃ t, ESs (cxOf CX0 P w K mg base N qual scope f cdv A outer s H E).nox body t dn) :
    FnOk P w K mg base CX0 (k + 1) f fd ps (spG K ps.length (fnD N.length dn)) := by
  refine F.ok S (fun vs H Q E h => h.1) (fun cdv A outer s H vs Q E hr h => ?_)
  obtain ⟨t, ht⟩ := hb cdv A outer s H E hr
  refine ⟨t, ht.p.nox, ?_⟩
  obtain ⟨hn, c, I, ds, s0, d, o, s1, r, sb, w0, hf, q⟩ := h
  obtain ⟨⟨out, s2⟩, h1, h2⟩ := bind_some_of hf
  have hl := r.length
  have e0 : EnvS K c I H I H (L2.start N vs) (ds.map Sl.im ++ List.replicate (N.length - ds.length) .un) s0 := by
    have sl : SlL K c I H (L2.start N vs) (ds.map Sl.im ++ List.replicate (N.length - ds.length) .un) := by
      unfold L2.start
      rw [hl]
      exact slL_start _ r
    exact ⟨⟨sb, w0, sl, fun i j p d e _ _ _ h3 _ => (start_im h3).elim⟩, .refl _, .refl _ _, fun a z => .inl z, fun i p d _ h => (start_im h).elim, fun r hr z => by
      obtain ⟨_, sc, z2, _⟩ := w0 r hr
      rw [z] at z2; cases z2⟩
  refine ht.s _ _ _ _ _ _ _ _ _ _ e0 h1 _ ?_
  cases out with
  | nx ρ' =>
    cases h2
    exact fun σ' I' H' e' => q .non I' H' e'.gr e'.env.w .non
  | rt d' k' =>
    have h3 : d' = d ∧ k' = o ∧ s2 = s1 := by cases h2; exact ⟨rfl, rfl, rfl⟩
    obtain ⟨rfl, rfl, rfl⟩ := h3
    cases k' with
    | false => exact fun v I' H' g w r => q v I' H' g w r
    | true => exact fun p I' H' g w r hp => q _ I' H' g w ⟨p, rfl, r, hp⟩
  | bk ρ' => cases h2
  | ct ρ' => cases h2
/-- the law: its first row makes the draws' list -/
def spLaw (K : PySem.W.Frag) : Sp := fun vs H Q _ => ∃ (a : Addr) (ns : List Int), vs = [.ref a] ∧ SqL K H a (ns.map V.int) ∧ ns.length ≤ 63 ∧ ∀ H', Q (.bl true) H'
theorem law_ok {N : List Str} {k i : Nat} {b0 : Int} {x0 : Str} {dn : Ds} {st0 : Stmt} {rest : List Stmt} (F : FunD K x qual params body scope [] [] f fd) (S : FnScope N [x0] scope) (hbody : body = st0 :: rest)
    (hb : ∀ (cdv : Value) (A : Around) (outer : List PySem.Env) (s : Shared) (H : Hp) (E : XK), Room k (A.deeper (envOfC qual scope s.heap.objs.size f cdv)) →
      PS (cxOf CX0 P w K mg base N qual scope f cdv A outer s H E).nox st0 (tAsg (tLst (tCons (tVar 0) (tCons (tC (.int 0)) (tCons (tC (.int b0)) (tCons (tC (.int 0)) tNil))))) (gName i)) ∧ ∃ t, ESs (cxOf CX0 P w K mg base N qual scope f cdv A outer s H E).nox rest t dn)
    (hd : ∀ ns : List Int, ns.length ≤ 63 → ∃ s', dn ((Sl.im (.sl ns) :: List.replicate (N.length - 1) .un).set i (.im .rw)) ⟨0, b0, 0, ns⟩ = some (.rt (.bl true) false, s')) : FnOk P w K mg base CX0 (k + 1) f fd [x0] (spLaw K) := by
  subst hbody
  refine F.ok S (fun vs H Q E h => ?_) (fun cdv A outer s H vs Q E hr h => ?_)
  · obtain ⟨a, ns, rfl, _⟩ := h; rfl
  obtain ⟨h0, t, ht⟩ := hb cdv A outer s H E hr
  have hs := ht.s
  refine ⟨_, (pss_cons h0 ht.p).nox, ?_⟩
  obtain ⟨a, ns, rfl, hS, hlen, q⟩ := h
  obtain ⟨s', hd⟩ := hd ns hlen
  refine ⟨_, rfl, by show 4 ≤ sizeLine; decide, fun p hp => ?_⟩
  -- what is known at the start: the script alone
  let I : Hp := fun z => if z = a then H a else none
  have hIa : I a = H a := if_pos rfl
  have nap : a ≠ p ∨ H a = none := by
    by_cases z : a = p
    · subst z; exact .inr hp
    · exact .inl z
  have hIp : I p = none := by
    by_cases z : p = a
    · subst z; show (if p = p then H p else none) = none; rw [if_pos rfl]; exact hp
    · exact if_neg z
  have hSI : SqL K I a (ns.map V.int) := by
    rcases hS with (h | ⟨o, h⟩) | h
    · exact .inl (.inl (hIa.trans h))
    · exact .inl (.inr ⟨o, hIa.trans h⟩)
    · exact .inr h
  have sb : Sub I (upd H p (.lst [.ref a, .int 0, .int b0, .int 0])) := fun z o hz => by
    by_cases h : z = a
    · subst h
      rw [hIa] at hz
      rw [upd_ne (ne_of_none hz hp)]
      exact .inl hz
    · have : I z = none := if_neg h
      rw [this] at hz; cases hz
  have w0 : DW K (some p) ⟨0, b0, 0, ns⟩ I (upd H p (.lst [.ref a, .int 0, .int b0, .int 0])) := fun r hr => by
    cases hr
    exact ⟨hIp, a, upd_same, hSI⟩
  have hst : L2.start N [V.ref a] = some (.ref a) :: List.replicate (N.length - 1) none := rfl
  have e0 : Ec K (some p) I (upd H p (.lst [.ref a, .int 0, .int b0, .int 0])) (L2.start N [V.ref a]) (Sl.im (.sl ns) :: List.replicate (N.length - 1) .un) ⟨0, b0, 0, ns⟩ := by
    refine ⟨sb, w0, ?_, fun i j p d e _ _ _ h3 _ => start_im (ds := [.sl ns]) h3⟩
    rw [hst]
    exact slL_start (vs := [.ref a]) (ds := [.sl ns]) _ (.cons (.sl hSI) .nil)
  have e1 := e0.setI (v := .ref p) (d := .rw) (.rw rfl) i
  refine hs _ I (upd H p (.lst [.ref a, .int 0, .int b0, .int 0])) I _ _ _ _ _ _ ⟨e1, .refl _, .refl _ _, fun a z => .inl z, fun j p d _ h => ?_, fun r hr => by cases hr; rw [upd_same]; simp⟩ hd _ ?_
  · by_cases z : i = j
    · subst z
      rw [List.getElem?_set] at h
      simp only [if_true] at h
      split at h <;> cases h
    · rw [List.getElem?_set_ne z] at h
      exact (start_im (ds := [.sl ns]) h).elim
  · intro v I' H' g w' r
    cases r
    exact q H'
end
end Dl
end
section
set_option Elab.async false
set_option linter.all false
set_option maxRecDepth 100000
set_option maxHeartbeats 4000000
namespace Dl
open PySem PySem.Spec PyProof.Rows L2 StX

/-! enumerate(t), t a tuple -/
theorem meets_enumB {v : Value} {o : Obj} {H : Heap → Prop} (B : Begins v o H) :
    Meets (Builtin.«enumerate.__new__» ⟨[.type "enumerate", v], []⟩) (fun _ R s => H s.heap ∧
      R (.ok (.ret (.ref (s.heap.push o).objs.size))) { s with heap := (s.heap.push o).push { cls := .type "enumerate", data := .fields #[.none, .bool false, .ref s.heap.objs.size, rawInt 0, .none, .none] } }) :=
  .of_wp fun prog w A R s z => by
    obtain ⟨hp, g, d, tk, os⟩ := s
    obtain ⟨hH, hR⟩ := z
    have hs := sub_enumerate
    wp_walk
    refine wpAny_stack_any fun st => wpAny_pure ?_
    split
    · rename_i c _ _ _ _ _
      cases (c == Value.type "enumerate") <;> (wp_walk using (B.iter _ _ _ _ _ _ hH); exact ⟨_, rfl, hR⟩)
    · wp_walk using (B.iter _ _ _ _ _ _ hH)
      exact ⟨_, rfl, hR⟩
theorem call_enumB {prog : Program} {w : World} {A : Around} {E : Value → Shared → Prop} {s : Shared} {v : Value} {o : Obj} {H : Heap → Prop} {Q : Value → Shared → Prop} (B : Begins v o H) (h1 : H s.heap)
    (h : ∀ h', IsEnum h' (s.heap.objs.size + 1) s.heap.objs.size 0 .none → h'.get? s.heap.objs.size = some o → (∀ b u, s.heap.get? b = some u → h'.get? b = some u) → Q (.ref (s.heap.objs.size + 1)) { s with heap := h' }) :
    wpAny (model prog w) A (call (.type "enumerate") [v]) Q E s := by
  refine callType_new F.called_enumerate (by decide) (F.typeCall_enumerate_1 _) (F.newCall_enumerate_1 _) (fun obj => F.args_object_init_2 obj _) F.entry_enumerate_new (meets_enumB B) ⟨h1, ?_⟩
  have hz : (s.heap.push o).objs.size = s.heap.objs.size + 1 := Heap.size_push ..
  show _ ∧ _
  rw [hz]
  have he := Heap.get?_push_size (s.heap.push o) (o := { cls := .type "enumerate", data := .fields #[.none, .bool false, .ref s.heap.objs.size, rawInt 0, .none, .none] }) rfl
  rw [hz] at he
  exact ⟨⟨_, he, rfl⟩, h _ he (Heap.get?_push_of_some _ (Heap.get?_push_size _ B.free)) fun b u x => Heap.get?_push_of_some _ (Heap.get?_push_of_some _ x)⟩
def IteT (K : PySem.W.Frag) (a : Addr) : It :=
  ⟨fun i H => ∃ (xs : List V) (x : V), SqT K H a xs ∧ xs[i]? = some x, fun i H v H' => ∃ T x, v = .ref T ∧ H T = none ∧ H' = upd H T (.tup [.int (i : Nat), x]) ∧ ∀ xs, SqT K H a xs → xs[i]? = some x, fun i H => ∃ xs : List V, SqT K H a xs ∧ xs.length = i⟩
theorem turn_enumT {P : Program} {w : World} {K : PySem.W.Frag} {elts : List Expr} {kk : Nat} {tpos : Pos} (a e it : Addr) :
    Turn P w K (.Tuple elts kk tpos) (IteT K a) [e, it] e (fun i h => (∃ old, IsEnum h e it ((i : Nat) : Int) old) ∧ h.IsTupleIter it a i ∧ e ≠ it) where
  mem := by simp
  obj := fun i h st b hb => by
    obtain ⟨⟨old, he⟩, ⟨o, ho, hc, hd⟩, _⟩ := st
    rcases (by simpa using hb : b = e ∨ b = it) with z | z
    · rw [z]; exact ⟨_, he, fun v q => nomatch q⟩
    · exact ⟨o, by rw [z]; exact ho, fun v q => by rw [hd] at q; cases q⟩
  keep := fun i h h' st k => ⟨⟨_, k e (by simp) _ st.1.choose_spec⟩, st.2.1.at fun o q => k it (by simp) o q, st.2.2⟩
  item := by
    intro X hP hw hK hc i pins s σ H E I hf st hg
    subst hP hw hK
    obtain ⟨⟨old, he⟩, hit, hne⟩ := st
    obtain ⟨xs, x, hq, hx⟩ := hg
    obtain ⟨its, rv, p, hz⟩ := I.tuple hq
    obtain ⟨u, hu, ru⟩ := rv.get hx
    have hel : e < s.heap.objs.size := Heap.lt_size he
    obtain ⟨oi, hoi, hci, hdi⟩ := id hit
    have hil : it < s.heap.objs.size := Heap.lt_size hoi
    obtain ⟨oa, hoa, hca, _⟩ := id p
    have nai : a ≠ it := fun z => by
      rw [z, hoi] at hoa
      cases hoa
      exact absurd (Value.type.inj (hci.symm.trans hca)) (by decide)
    have nae : e ≠ a := fun z => by
      have he2 := he
      unfold IsEnum at he2
      rw [z, hoa] at he2
      cases he2
      exact absurd (Value.type.inj hca) (by decide)
    have D : Draws X.prog X.w X.A.in1 it [it, a] its.toArray.size _ _ := Draws.tuple (A := X.A.in1) (show X.A.in1.handled = none from I.ok.hd hc) it a nai its.toArray
    have hlt : i < its.toArray.size := by
      have := (List.getElem?_eq_some_iff.mp hu).1
      simpa using this
    refine wpAny_pyNext_enum_itemD D he ⟨hit, p⟩ hlt hne (by simp [hne, nae]) fun y h' tk hy ho hst' hT hsz hk => ?_
    have hy' : y = u := by
      have : its.toArray[i]? = some u := by simpa using hu
      exact Option.some.inj (hy.symm.trans this)
    subst hy'
    refine ⟨_, rfl, wpAny_letOwnedTupleGo_enum (s := { s with heap := h', toks := tk + 1 }) ho fun h'' he' sb => ?_⟩
    have hT2 : h''.get? s.heap.objs.size = some { cls := .type "tuple", data := .seq #[.int i tk, y] } := (sb.2 _ (Nat.ne_of_gt hel)).trans hT
    have J : Inv X pins σ (upd H s.heap.objs.size (.tup [.int (i : Nat), x])) { s with heap := h'', toks := tk + 1 } :=
      I.turnedNew (ch := [e, it]) (fun b ob hb q => by
        have n1 : b ≠ e := fun z => hb (by simp [z])
        have n2 : b ≠ it := fun z => hb (by simp [z])
        exact (sb.2 b n1).trans (hk b ob n1 n2 q)) hf (Nat.le_refl _) (by
        refine ⟨by show 2 ≤ sizeLine; decide, [.int i tk, y], .cons ⟨_, rfl⟩ (.cons ru .nil), _, hT2, rfl, _, rfl⟩)
    refine ⟨.ref s.heap.objs.size, _, J, rfl, ⟨_, x, rfl, I.hok.fresh (Nat.le_refl _), rfl, fun ys hy => by rw [I.tuple_inj hy hq]; exact hx⟩, ⟨⟨y, ?_⟩, hst'.1.at fun o q => (sb.2 it (Ne.symm hne)).trans q, hne⟩, fun b hb => ?_⟩
    · rw [show ((i + 1 : Nat) : Int) = (i : Int) + 1 by omega]; exact he'
    · have hb' : b < s.heap.objs.size := by
        rcases (by simpa using hb : b = e ∨ b = it) with z | z
        · rw [z]; exact hel
        · rw [z]; exact hil
      rw [upd_ne (Nat.ne_of_lt hb')]
      exact (hf b hb).1
  done := by
    intro X hP hw hK hc i pins s σ H E I hf st hg
    subst hP hw hK
    obtain ⟨⟨old, he⟩, hit, hne⟩ := st
    obtain ⟨xs, hq, hx⟩ := hg
    obtain ⟨its, rv, p, hz⟩ := I.tuple hq
    obtain ⟨oi, hoi, hci, hdi⟩ := id hit
    obtain ⟨oa, hoa, hca, _⟩ := id p
    have nai : a ≠ it := fun z => by
      rw [z, hoi] at hoa
      cases hoa
      exact absurd (Value.type.inj (hci.symm.trans hca)) (by decide)
    obtain ⟨f0, f1, f2, f3, f4, f5⟩ := hf it (by simp)
    have hl := rv.length
    have D : Draws X.prog X.w X.A.in1 it [it, a] its.toArray.size _ _ := Draws.tuple (A := X.A.in1) (show X.A.in1.handled = none from I.ok.hd hc) it a nai its.toArray
    have hn : its.toArray.size = i := by
      rw [List.size_toArray]; omega
    exact wpAny_pyNext_enum_endD D he ⟨by rw [hn]; exact hit, p⟩ fun h' eb => ⟨rfl, I.turned (t' := s.toks) (fun b o hb q => eb b o hb q) f0 f1 f3 f4 f5⟩
  self := fun A i s Q E st h => let ⟨⟨_, he⟩, _⟩ := st; wpAny_pyIter_enum he h
end Dl
end
section
set_option Elab.async false
set_option linter.all false
set_option maxRecDepth 100000
set_option maxHeartbeats 4000000
namespace Dl
open PySem PySem.Spec PyProof.Rows L2 StX

theorem RepL.strs {K : PySem.W.Frag} {c : Option Addr} {I : Hp} : ∀ ns : List Str, RepL K c I (ns.map V.str) (ns.map D.str)
  | [] => .nil
  | n :: ns => .cons (.str n) (RepL.strs ns)
/-! enumerate -/
def enumL : Nat → List D → List D
  | _, [] => []
  | k, x :: xs => .ktp [.int (k : Nat), x] :: enumL (k + 1) xs
theorem enumL_len : ∀ (xs : List D) (k : Nat), (enumL k xs).length = xs.length
  | [], _ => rfl
  | x :: xs, k => congrArg Nat.succ (enumL_len xs (k + 1))
theorem enumL_get : ∀ {xs : List D} {k i : Nat} {z : D}, (enumL k xs)[i]? = some z → ∃ x, xs[i]? = some x ∧ z = .ktp [.int ((k + i : Nat) : Nat), x]
  | [], _, _, _, h => by simp [enumL] at h
  | x :: xs, k, 0, z, h => by
    have : some (D.ktp [.int (k : Nat), x]) = some z := h
    cases this
    exact ⟨x, rfl, rfl⟩
  | x :: xs, k, i + 1, z, h => by
    obtain ⟨y, h1, h2⟩ := enumL_get (xs := xs) (k := k + 1) (i := i) h
    exact ⟨y, h1, by rw [h2, show k + 1 + i = k + (i + 1) by omega]⟩
section
variable {K : PySem.W.Frag} {c : Option Addr} {I : Hp}
theorem yl_enumT {a : Addr} {xs : List V} {ds : List D} (h : SqT K I a xs) (r : RepL K c I xs ds) : Yl K c (IteT K a) I (enumL 0 ds) := fun I2 H2 sb s => by
  have hq : SqT K H2 a xs := s.sqT (sb_sqT sb h)
  refine ⟨fun i d e => ?_, ⟨xs, hq, by rw [r.length, enumL_len]⟩⟩
  obtain ⟨z, e2, rfl⟩ := enumL_get e
  obtain ⟨v, hv, rv⟩ := r.get e2
  refine ⟨⟨xs, v, hq, hv⟩, fun x H3 hy => ?_⟩
  obtain ⟨T, y, rfl, hT, rfl, hy⟩ := hy
  have := hy xs hq
  rw [hv] at this
  cases this
  have g := Gr.new (o := .tup [.int (i : Nat), v]) s hT
  refine ⟨_, g, .ktp (.of upd_same) ?_⟩
  rw [show 0 + i = i by omega]
  exact .cons (.int _) (.one ((rv.mono sb).mono g.s1))
theorem yl_enumL {a : Addr} {xs : List V} {ds : List D} (h : I a = some (.lst xs)) (r : RepL K c I xs ds) : Yl K c (Ite K a) I (enumL 0 ds) := fun I2 H2 sb s => by
  have hq : SqL K H2 a xs := .of (s.lst (sb _ _ h))
  refine ⟨fun i d e => ?_, ⟨xs, hq, by rw [r.length, enumL_len]; exact Nat.le_refl _⟩⟩
  obtain ⟨z, e2, rfl⟩ := enumL_get e
  obtain ⟨v, hv, rv⟩ := r.get e2
  refine ⟨⟨xs, v, hq, hv⟩, fun x H3 hy => ?_⟩
  obtain ⟨T, y, rfl, hT, rfl, hy⟩ := hy
  have := hy xs hq
  rw [hv] at this
  cases this
  have g := Gr.new (o := .tup [.int (i : Nat), v]) s hT
  refine ⟨_, g, .ktp (.of upd_same) ?_⟩
  rw [show 0 + i = i by omega]
  exact .cons (.int _) (.one ((rv.mono sb).mono g.s1))
end
def iEnumT (K : PySem.W.Frag) (ta : TA) : TI := fun σ H R => ta σ H fun vs H1 => ∃ a xs, vs = [.ref a] ∧ SqT K H1 a xs ∧ R (IteT K a) H1
theorem pi_enumT {X : Cx} {e : Expr} {ta : TA} {p pos tpos : Pos} {elts : List Expr} {kk : Nat} (hg : Gl X "enumerate") (hm : X.mg "enumerate" = none) (ha : PA X [e] ta) (hs : starEach [e] X.env = [(false, eval e X.env)] := by rfl) :
    PI X (.Tuple elts kk tpos) (.Call (.Name "enumerate" p) [e] [] pos) (iEnumT X.K ta) := by
  refine ⟨fun pins s σ H R I h => Call_ (ld_blt I hg hm boot_enumerate (PyProof.Rows.callWith_type1 (thn (ha.run pos pins s σ H _ I h) fun us s1 z => ?_) hs rfl))⟩
  obtain ⟨vs, H1, J, r1, a, xs, rfl, hq, q⟩ := z
  obtain ⟨u, rfl, ru⟩ := vals1 r1
  obtain rfl : u = Value.ref a := ru
  obtain ⟨its, rv, p', hz⟩ := J.tuple hq
  refine call_enumB (begins_tuple a its.toArray) p' fun h' he hit hk => wpAny_pyIter_enum he ?_
  have J2 : Inv X pins σ H1 { s1 with heap := h' } := J.kept (t' := s1.toks) hk
  refine ⟨s1.heap.objs.size + 1, [s1.heap.objs.size + 1, s1.heap.objs.size], _, _, H1, rfl, J2, turn_enumT a (s1.heap.objs.size + 1) s1.heap.objs.size, ⟨⟨.none, he⟩, ⟨_, hit, rfl, rfl⟩, Nat.succ_ne_self _⟩, fun b hb => ?_, q⟩
  have hle : s1.heap.objs.size ≤ b := by
    rcases (by simpa using hb : b = s1.heap.objs.size + 1 ∨ b = s1.heap.objs.size) with z | z
    · rw [z]; exact Nat.le_add_right _ _
    · rw [z]; exact Nat.le_refl _
  exact J.fpOk hle (J.hok.fresh hle)
def dEnT (ax : Da) : Da := fun ρ s => (ax ρ s).bind fun p => match p.1 with
  | [d] => d.asT.map fun xs => (enumL 0 xs, p.2)
  | _ => none
def dEnL (ax : Da) : Da := fun ρ s => (ax ρ s).bind fun p => match p.1 with
  | [.lst xs] => some (enumL 0 xs, p.2)
  | _ => none
theorem si_enumT {K : PySem.W.Frag} {tx : TA} {ax : Da} (h1 : SndA K tx ax) : SndI K (iEnumT K tx) (dEnT ax) := fun c I H σ ρ s xs s' e h R q => by
  obtain ⟨⟨x, s1⟩, h2, h⟩ := bind_some_of h
  refine h1 _ _ _ _ _ _ _ _ e h2 _ fun v I1 H1 g1 w1 r1 => ?_
  split at h
  · rename_i d hd
    have hd : x = [d] := hd
    subst hd
    obtain ⟨ds, h3, h⟩ := map_some_of h
    cases h
    cases r1 with
    | cons a r =>
      cases r
      obtain ⟨p, vs, rfl, hp, rp⟩ := a.asT h3
      exact ⟨p, vs, rfl, g1.s2.sqT hp, q _ I1 H1 g1 w1 (yl_enumT hp rp)⟩
  · cases h
theorem si_enumL {K : PySem.W.Frag} {tx : TA} {ax : Da} (h1 : SndA K tx ax) : SndI K (iEnum K tx) (dEnL ax) := fun c I H σ ρ s xs s' e h R q => by
  obtain ⟨⟨x, s1⟩, h2, h⟩ := bind_some_of h
  refine h1 _ _ _ _ _ _ _ _ e h2 _ fun v I1 H1 g1 w1 r1 => ?_
  split at h
  · rename_i ds hd
    have hd : x = [.lst ds] := hd
    subst hd
    cases h
    cases r1 with
    | cons a r =>
      cases r
      cases a with
      | lst hp rp => exact ⟨_, _, rfl, .of (g1.s2.lst hp), q _ I1 H1 g1 w1 (yl_enumL hp rp)⟩
  · cases h
section
variable {X : Cx} {e o : Expr} {te : TE} {da : Dn} {tx : TA} {ax : Da} {p pos tpos apos cpos : Pos} {elts : List Expr} {kk : Nat}
theorem ei_enumT (hg : Gl X "enumerate") (hm : X.mg "enumerate" = none) (ha : EA X [e] tx ax) (hs : starEach [e] X.env = [(false, eval e X.env)] := by rfl) : EI X (.Tuple elts kk tpos) (.Call (.Name "enumerate" p) [e] [] pos) (iEnumT X.K tx) (dEnT ax) := ⟨pi_enumT hg hm ha.p hs, si_enumT ha.s⟩
theorem ei_enumL (hg : Gl X "enumerate") (hm : X.mg "enumerate" = none) (ha : EA X [e] tx ax) (hs : starEach [e] X.env = [(false, eval e X.env)] := by rfl) : EI X (.Tuple elts kk tpos) (.Call (.Name "enumerate" p) [e] [] pos) (iEnum X.K tx) (dEnL ax) := ⟨pi_enum hg hm ha.p hs, si_enumL ha.s⟩
end

/-! t.count(x); methods of texts -/
def countD (d e : D) : Option D := match d, e with
  | .tup xs, .str y => (strsOf xs).map fun ys => .int ((ys.count y : Nat) : Int)
  | _, _ => none
theorem countV (y : Str) : ∀ ys : List Str, ((ys.map V.str).countP fun z => eqV z (.str y)) = ys.count y
  | [] => rfl
  | x :: xs => by
    rw [List.map_cons, List.countP_cons, List.count_cons, countV y xs]
    rfl
theorem sn_tcount {K : PySem.W.Frag} {to te : TE} {dx da : Dn} (h0 : SndE K to dx) (h1 : SndE K te da) : SndE K (tTCount to te) (dOp countD dx da) := fun c I H σ ρ s d s' e h Q q => by
  obtain ⟨⟨x, s1⟩, h2, h⟩ := bind_some_of h
  obtain ⟨⟨y, s2⟩, h3, h⟩ := bind_some_of h
  obtain ⟨z, h4, h⟩ := map_some_of h
  cases h
  refine h0 _ _ _ _ _ _ _ _ e h2 _ fun v I1 H1 g1 w1 r1 => ?_
  unfold countD at h4
  split at h4
  · rename_i xs y1 hx1 hy1
    have hx1 : x = .tup xs := hx1
    have hy1 : y = .str y1 := hy1
    subst hx1 hy1
    obtain ⟨ys, h5, rfl⟩ := map_some_of h4
    cases r1 with
    | @tup a o vs ds hI ho rl =>
      have hH := g1.s2.get hI fun _ z => by cases z
      refine ⟨a, o, vs, rfl, hH, ho, ?_⟩
      refine h1 _ _ _ _ _ _ _ _ (e.grow g1 w1) h3 _ fun u I2 H2 g2 w2 r2 => ?_
      cases r2
      have ev := strsOf_rep rl h5
      refine ⟨g2.s2.get (g2.s1 _ _ hI) (fun _ z => by cases z), rfl, ?_, ?_⟩
      · rw [ev, List.all_map]
        exact List.all_eq_true.mpr fun _ _ => rfl
      · rw [ev, countV]
        exact q _ I2 H2 (g1.tr w1 g2) w2 (.int _)
  · cases h4
def SndMS (K : PySem.W.Frag) (r : V → List V → Hp → VK → Prop) (f : Str → List D → Option D) : Prop := ∀ c I H x xs ds z, Sub I H → RepL K c I xs ds → f x ds = some z → ∀ Q, RQ K c I H z Q → r (.str x) xs H Q
def dMethS (f : Str → List D → Option D) (dx : Dn) (ax : Da) : Dn := fun ρ s => (dx ρ s).bind fun p => match p.1 with
  | .str x => (ax ρ p.2).bind fun q => (f x q.1).map fun z => (z, q.2)
  | _ => none
theorem sn_bmS {K : PySem.W.Frag} {r : V → List V → Hp → VK → Prop} {f : Str → List D → Option D} {to : TE} {tx : TA} {dx : Dn} {ax : Da} (h0 : SndE K to dx) (h1 : SndA K tx ax) (hr : SndMS K r f) : SndE K (tBM K "str" r to tx) (dMethS f dx ax) := fun c I H σ ρ s d s' e h Q q => by
  obtain ⟨⟨x, s1⟩, h2, h⟩ := bind_some_of h
  refine h0 _ _ _ _ _ _ _ _ e h2 _ fun v I1 H1 g1 w1 r1 => ?_
  cases r1 with
  | str x =>
    obtain ⟨⟨y, s2⟩, h3, h⟩ := bind_some_of h
    obtain ⟨z, h4, h⟩ := map_some_of h
    cases h
    refine ⟨rfl, ?_⟩
    refine h1 _ _ _ _ _ _ _ _ (e.grow g1 w1) h3 _ fun u I2 H2 g2 w2 r2 => ?_
    refine hr _ _ _ _ _ _ _ g2.s2 r2 h4 _ fun t I3 H3 g3 r3 => ?_
    exact q t I3 H3 ((g1.tr w1 g2).tr w2 g3.up) (w2.gr g3) r3
  | _ => cases h
def countSD : Str → List D → Option D
  | x, [.str y] => some (.int (Txt.count x y))
  | _, _ => none
def rCountS : V → List V → Hp → VK → Prop := fun x xs H Q => ∃ a b, x = .str a ∧ xs = [.str b] ∧ Q (.int (Txt.count a b)) H
theorem sm_count {K : PySem.W.Frag} : SndMS K rCountS countSD := fun c I H x xs ds z s rx h Q q => by
  unfold countSD at h
  split at h
  · cases h
    cases rx with
    | cons a r => cases r; cases a; exact ⟨_, _, rfl, rfl, q.val s (.int _)⟩
  · cases h
def joinSD : Str → List D → Option D
  | x, [.lst ds] => (strsOf ds).bind fun ys => if (ys.map fun z => z.length).sum + ys.length * x.length ≤ 1000000 then some (.str (Txt.join x ys)) else none
  | _, _ => none
def rJoinS (K : PySem.W.Frag) : V → List V → Hp → VK → Prop := fun x xs H Q => ∃ a p, ∃ ys : List Str, x = .str a ∧ xs = [.ref p] ∧ (SqL K H p (ys.map V.str) ∨ SqT K H p (ys.map V.str)) ∧ (ys.map (fun z => z.length)).sum + ys.length * a.length ≤ 16777216 ∧ Q (.str (Txt.join a ys)) H
theorem sm_join {K : PySem.W.Frag} : SndMS K (rJoinS K) joinSD := fun c I H x xs ds z s rx h Q q => by
  unfold joinSD at h
  split at h
  · obtain ⟨ys, h1, h⟩ := bind_some_of h
    split at h
    · rename_i hl
      cases h
      cases rx with
      | cons a r =>
        cases r
        cases a with
        | lst h2 rl =>
          rw [strsOf_rep rl h1] at h2
          exact ⟨_, _, ys, rfl, rfl, .inl (.of (s.lst h2)), by omega, q.val s (.str _)⟩
    · cases h
  · cases h
section
variable {X : Cx} {o e : Expr} {es : List Expr} {to te : TE} {dx da : Dn} {tx : TA} {ax : Da} {apos cpos : Pos}
theorem ee_tcount (ho : EE X o to dx) (he : EE X e te da) (hbase : attributeBase o "count" X.env (eval o X.env) = eval o X.env := by rfl) (hline : (apos.endLine == cpos.line) = true := by rfl) (hs : starEach [e] X.env = [(false, eval e X.env)] := by rfl) :
    EE X (.Call (.Attribute o "count" apos) [e] [] cpos) (tTCount to te) (dOp countD dx da) := ⟨pe_tcount ho.p he.p hbase hline hs, sn_tcount ho.s he.s⟩
/-- a method of str -/
theorem ee_bmS {name : Str} {id : String} {r : V → List V → Hp → VK → Prop} {f : Str → List D → Option D} (slot : Slot "str" name id) (hty : typeOf (.builtin id) = pure (.type "method_descriptor")) (hm : MtR X id r) (hr : SndMS X.K r f) (ho : EE X o to dx) (ha : EA X (e :: es) tx ax)
    (hbase : attributeBase o name X.env (eval o X.env) = eval o X.env := by rfl)
    (hfew : ((backTo cpos (starEach (e :: es) X.env)).all (fun x => !x.1) && (backToKw cpos (keywordEach [] X.env)).all (fun x => x.1.isSome) && decide ((e :: es).length + ([] : List Keyword).length + (if ([] : List Keyword).isEmpty then 0 else 1) < 30)) = true := by rfl)
    (hline : (apos.endLine == cpos.line) = true := by rfl) (hs : starEach (e :: es) X.env = (false, eval e X.env) :: starEach es X.env := by rfl) (hplain : (backTo cpos (starEach es X.env)).any (fun z => z.1) = false := by rfl) :
    EE X (.Call (.Attribute o name apos) (e :: es) [] cpos) (tBM X.K "str" r to tx) (dMethS f dx ax) :=
  ⟨pe_bm PySem.F.plainAttrs_str slot hty hm ho.p ha.p hbase hfew hline hs hplain, sn_bmS ho.s ha.s hr⟩
end

/-! dicts with text keys -/
def lookD {κ : Type} [DecidableEq κ] (es : List (κ × D)) (k : κ) : Option D := (es.find? fun z => decide (z.1 = k)).map fun z => z.2
def putD {κ : Type} [DecidableEq κ] (es : List (κ × D)) (k : κ) (v : D) : List (κ × D) := if (es.any fun z => decide (z.1 = k)) = true then es.map (fun z => if z.1 = k then (z.1, v) else z) else es ++ [(k, v)]
def mergeD (es more : List (Str × D)) : List (Str × D) := more.foldl (fun acc z => putD acc z.1 z.2) es
section
variable {K : PySem.W.Frag} {c : Option Addr} {I : Hp}
theorem RepS.length : ∀ {kvs : List (Key × V)} {es : List (Str × D)}, RepS K c I kvs es → kvs.length = es.length
  | _, _, .nil => rfl
  | _, _, .cons _ r => congrArg Nat.succ r.length
theorem dec_inr {a b : Str} : decide ((Sum.inr a : Key) = Sum.inr b) = decide (a = b) := key_rr a b
theorem RepS.look : ∀ {kvs : List (Key × V)} {es : List (Str × D)} {k : Str} {d : D}, RepS K c I kvs es → lookD es k = some d → ∃ v, valV kvs (Sum.inr k) = some v ∧ Rep K c I v d
  | _, _, _, _, .nil, h => by cases h
  | _, _, k, d, .cons (k := k') a r, h => by
    by_cases e : k' = k
    · subst e
      rename_i v0 d0 _ _
      have h : some d0 = some d := by simpa [lookD, List.find?_cons] using h
      cases h
      exact ⟨v0, valV_pos rfl, a⟩
    · rename_i v0 d0 vs0 ds0
      have h2 : lookD ds0 k = some d := by
        unfold lookD at h ⊢
        rw [List.find?_cons, decide_eq_false e] at h
        exact h
      obtain ⟨v, h3, h4⟩ := r.look h2
      exact ⟨v, by rw [valV_neg (fun z => e (Sum.inr.inj z))]; exact h3, h4⟩
theorem RepS.none : ∀ {kvs : List (Key × V)} {es : List (Str × D)} {k : Str}, RepS K c I kvs es → lookD es k = Option.none → valV kvs (Sum.inr k) = Option.none
  | _, _, _, .nil, h => rfl
  | _, _, k, .cons (k := k') a r, h => by
    by_cases e : k' = k
    · subst e
      simp [lookD, List.find?_cons] at h
    · rename_i v0 d0 vs0 ds0
      have h2 : lookD ds0 k = Option.none := by
        unfold lookD at h ⊢
        rw [List.find?_cons, decide_eq_false e] at h
        exact h
      rw [valV_neg (fun z => e (Sum.inr.inj z))]
      exact r.none h2
theorem RepS.any (k : Str) : ∀ {kvs : List (Key × V)} {es : List (Str × D)}, RepS K c I kvs es → (kvs.any fun z => decide (z.1 = Sum.inr k)) = es.any fun z => decide (z.1 = k)
  | _, _, .nil => rfl
  | _, _, .cons a r => by
    rw [List.any_cons, List.any_cons, r.any k]
    show (decide (Sum.inr _ = Sum.inr k) || _) = _
    rw [dec_inr]
theorem RepS.repl (k : Str) {v : V} {d : D} (h : Rep K c I v d) : ∀ {kvs : List (Key × V)} {es : List (Str × D)}, RepS K c I kvs es → RepS K c I (kvs.map fun z => if z.1 = Sum.inr k then (z.1, v) else z) (es.map fun z => if z.1 = k then (z.1, d) else z)
  | _, _, .nil => .nil
  | _, _, .cons (k := k') a r => by
    rw [List.map_cons, List.map_cons]
    by_cases e : k' = k
    · subst e
      rw [if_pos rfl, if_pos rfl]
      exact .cons h (r.repl _ h)
    · rw [if_neg (fun z => e (Sum.inr.inj z)), if_neg e]
      exact .cons a (r.repl _ h)
theorem RepS.snoc {k : Str} {v : V} {d : D} (h : Rep K c I v d) : ∀ {kvs : List (Key × V)} {es : List (Str × D)}, RepS K c I kvs es → RepS K c I (kvs ++ [(Sum.inr k, v)]) (es ++ [(k, d)])
  | _, _, .nil => .cons h .nil
  | _, _, .cons a r => .cons a (r.snoc h)
theorem RepS.put {kvs : List (Key × V)} {es : List (Str × D)} {k : Str} {v : V} {d : D} (r : RepS K c I kvs es) (h : Rep K c I v d) : RepS K c I (putK kvs (Sum.inr k) v) (putD es k d) := by
  unfold putK putD
  rw [r.any k]
  split
  · exact r.repl k h
  · exact r.snoc h
theorem RepS.merge : ∀ {more : List (Key × V)} {es2 : List (Str × D)} {kvs : List (Key × V)} {es : List (Str × D)}, RepS K c I more es2 → RepS K c I kvs es → RepS K c I (mergeK kvs more) (mergeD es es2)
  | _, _, _, _, .nil, r => r
  | _, _, _, _, .cons a r2, r => by
    unfold mergeK mergeD
    rw [List.foldl_cons, List.foldl_cons]
    exact RepS.merge r2 (r.put a)
end
abbrev Dp2 := List Sl → Tau → Option (List (Str × D) × Tau)
def dpNil : Dp2 := fun _ s => some ([], s)
def dpCons (k v : Dn) (r : Dp2) : Dp2 := fun ρ s => (k ρ s).bind fun p => match p.1 with
  | .str x => (v ρ p.2).bind fun q => (r ρ q.2).map fun t => ((x, q.1) :: t.1, t.2)
  | _ => none
def dDisp (r : Dp2) : Dn := fun ρ s => (r ρ s).bind fun p => if p.1.length ≤ 15 then some (.dS (mergeD [] p.1), p.2) else none
def SndP (K : PySem.W.Frag) (trs : List (TE × TE)) (dp : Dp2) : Prop := ∀ c I H σ ρ s es s', Ec K c I H σ ρ s → dp ρ s = some (es, s') →
  ∀ Q : List (V × V) → Hp → Prop, (∀ kvs I' H', Gr c I H I' H' → DW K c s' I' H' → RepS K c I' kvs es → Q (kvs.map fun z => (kV z.1, z.2)) H') → tPairs trs σ H Q
theorem sp_nil {K : PySem.W.Frag} : SndP K [] dpNil := fun c I H σ ρ s es s' e h Q q => by
  cases h
  exact q [] I H (.refl e.sub) e.w .nil
theorem sp_cons {K : PySem.W.Frag} {tk tv : TE} {trs : List (TE × TE)} {dk dv : Dn} {dr : Dp2} (h1 : SndE K tk dk) (h2 : SndE K tv dv) (h3 : SndP K trs dr) : SndP K ((tk, tv) :: trs) (dpCons dk dv dr) := fun c I H σ ρ s es s' e h Q q => by
  obtain ⟨⟨x, s1⟩, ha, h⟩ := bind_some_of h
  refine h1 _ _ _ _ _ _ _ _ e ha _ fun v I1 H1 g1 w1 r1 => ?_
  cases r1 with
  | str x =>
    obtain ⟨⟨y, s2⟩, hb, h⟩ := bind_some_of h
    obtain ⟨⟨z, s3⟩, hc, h⟩ := map_some_of h
    cases h
    refine h2 _ _ _ _ _ _ _ _ (e.grow g1 w1) hb _ fun u I2 H2 g2 w2 r2 => ?_
    have g12 := g1.tr w1 g2
    refine h3 _ _ _ _ _ _ _ _ (e.grow g12 w2) hc _ fun kvs I3 H3 g3 w3 r3 => ?_
    exact q ((Sum.inr x, u) :: kvs) I3 H3 (g12.tr w2 g3) w3 (.cons (r2.mono g3.s1) r3)
  | _ => cases h
theorem sn_disp {K : PySem.W.Frag} {trs : List (TE × TE)} {dr : Dp2} (h1 : SndP K trs dr) : SndE K (tDisp trs) (dDisp dr) := fun c I H σ ρ s d s' e h Q q => by
  obtain ⟨⟨es, s1⟩, ha, h⟩ := bind_some_of h
  split at h
  · rename_i hl
    cases h
    intro p hp
    have cD : c ≠ some p := fun z => by
      obtain ⟨_, sc, z2, _⟩ := e.w p z
      rw [hp] at z2; cases z2
    have hI := e.sub.free hp
    have g0 : Gr c I H I (upd H p (.dK [])) := ⟨.refl _, fun a o z => by rw [upd_ne (ne_of_none z hI)]; exact e.sub a o z, fun a o _ z => by rw [upd_ne (ne_of_none z hp)]; exact z, fun a z => .inl z⟩
    have w0 : DW K c s I (upd H p (.dK [])) := fun r hr => by
      obtain ⟨z1, sc, z2, z3⟩ := e.w r hr
      exact ⟨z1, sc, by rw [upd_ne (ne_of_none z2 hp)]; exact z2, z3⟩
    refine h1 _ _ _ _ _ _ _ _ (e.grow g0 w0) ha _ fun kvs I1 H1 g1 w1 r1 => ?_
    have hp1 : H1 p = some (.dK []) := g1.kp _ _ cD upd_same
    have hI1 : I1 p = none := by
      cases qq : I1 p with
      | none => rfl
      | some o =>
        rcases g1.nw p (by rw [qq]; simp) with z | z
        · exact absurd hI z
        · rw [upd_same] at z; cases z
    refine ⟨hp1, kvs, rfl, by rw [r1.length]; exact hl, ?_⟩
    have sI : Sb I1 (upd I1 p (.dK (mergeK [] kvs))) := fun a o z => by rw [upd_ne (ne_of_none z hI1)]; exact z
    refine q _ (upd I1 p (.dK (mergeK [] kvs))) _ ⟨(g0.s1.trans g1.s1).trans sI, fun a o z => ?_, fun a o n z => ?_, fun a z => ?_⟩ (fun r hr => ?_) (.dS upd_same (RepS.merge (r1.mono sI) .nil))
    · by_cases n : a = p
      · subst n; rw [upd_same] at z ⊢; exact .inl z
      · rw [upd_ne n] at z ⊢; exact g1.s2 a o z
    · rw [upd_ne (ne_of_none z hp)]
      exact g1.kp a o n (g0.kp a o n z)
    · by_cases n : a = p
      · subst n; exact .inr hp
      · rw [upd_ne n] at z
        rcases g1.nw a z with z | z
        · exact .inl z
        · rw [upd_ne n] at z; exact .inr z
    · obtain ⟨z1, sc, z2, z3⟩ := w1 r hr
      have n : r ≠ p := fun z => cD (by rw [hr, z])
      exact ⟨by rw [upd_ne n]; exact z1, sc, by rw [upd_ne n]; exact z2, sb_sqL sI z3⟩
  · cases h
def dgetD : D → D → Option D
  | .dS es, .str k => lookD es k
  | _, _ => none
theorem sn_dget {K : PySem.W.Frag} {td ty : TE} {dd dy : Dn} (h0 : SndE K td dd) (h1 : SndE K ty dy) : SndE K (tDGet td ty) (dOp dgetD dd dy) := fun c I H σ ρ s d s' e h Q q => by
  obtain ⟨⟨x, s1⟩, h2, h⟩ := bind_some_of h
  obtain ⟨⟨y, s2⟩, h3, h⟩ := bind_some_of h
  obtain ⟨z, h4, h⟩ := map_some_of h
  cases h
  refine h0 _ _ _ _ _ _ _ _ e h2 _ fun v I1 H1 g1 w1 r1 => ?_
  refine h1 _ _ _ _ _ _ _ _ (e.grow g1 w1) h3 _ fun u I2 H2 g2 w2 r2 => ?_
  unfold dgetD at h4
  split at h4
  · rename_i es k hx hy
    have hx : x = .dS es := hx
    have hy : y = .str k := hy
    subst hx hy
    cases r2
    cases r1 with
    | dS hI rs =>
      obtain ⟨v, h5, h6⟩ := (rs.mono g2.s1).look h4
      exact ⟨_, v, rfl, .inl ⟨_, Sum.inr k, g2.s2.dK (g2.s1 _ _ hI), rfl, h5.symm⟩, q _ I2 H2 (g1.tr w1 g2) w2 h6⟩
  · cases h4
/-- d.get(k, x) -/
def dget2D (d k x : D) : Option D := match d, k with
  | .dS es, .str k => some ((lookD es k).getD x)
  | _, _ => none
def dGet2 (dd dy dx : Dn) : Dn := fun ρ s => (dd ρ s).bind fun p => (dy ρ p.2).bind fun q => (dx ρ q.2).bind fun r => (dget2D p.1 q.1 r.1).map fun z => (z, r.2)
theorem sn_dget2 {K : PySem.W.Frag} {td ty tx : TE} {dd dy dx : Dn} (h0 : SndE K td dd) (h1 : SndE K ty dy) (h2 : SndE K tx dx) : SndE K (tDGet2 td ty tx) (dGet2 dd dy dx) := fun c I H σ ρ s d s' e h Q q => by
  obtain ⟨⟨x, s1⟩, ha, h⟩ := bind_some_of h
  obtain ⟨⟨y, s2⟩, hb, h⟩ := bind_some_of h
  obtain ⟨⟨t, s3⟩, hc, h⟩ := bind_some_of h
  obtain ⟨z, h4, h⟩ := map_some_of h
  cases h
  unfold dget2D at h4
  split at h4
  · rename_i es k hx hy
    have hx : x = .dS es := hx
    have hy : y = .str k := hy
    subst hx hy
    refine h0 _ _ _ _ _ _ _ _ e ha _ fun v I1 H1 g1 w1 r1 => ?_
    cases r1 with
    | dS hI rs =>
      refine ⟨_, rfl, .inl ⟨_, g1.s2.dK hI⟩, ?_⟩
      refine h1 _ _ _ _ _ _ _ _ (e.grow g1 w1) hb _ fun u I2 H2 g2 w2 r2 => ?_
      have g12 := g1.tr w1 g2
      refine h2 _ _ _ _ _ _ _ _ (e.grow g12 w2) hc _ fun w I3 H3 g3 w3 r3 => ?_
      cases r2
      have rs3 := (rs.mono g2.s1).mono g3.s1
      refine ⟨_, .inl ⟨_, Sum.inr k, g3.s2.dK (g3.s1 _ _ (g2.s1 _ _ hI)), rfl, rfl⟩, ?_⟩
      cases hl : lookD es k with
      | some d1 =>
        rw [hl] at h4
        cases h4
        obtain ⟨v1, h5, h6⟩ := rs3.look hl
        rw [h5]
        exact q _ I3 H3 (g12.tr w2 g3) w3 h6
      | none =>
        rw [hl] at h4
        cases h4
        rw [rs3.none hl]
        exact q _ I3 H3 (g12.tr w2 g3) w3 r3
  · cases h4
section
variable {X : Cx} {o i : Expr} {td ty : TE} {dd dy : Dn} {pos : Pos} {k : Nat}
structure EP2 (X : Cx) (pos : Pos) (keys : List (Option Expr)) (values : List Expr) (trs : List (TE × TE)) (dp : Dp2) : Prop where
  p : PPs X pos keys values trs
  s : SndP X.K trs dp
theorem ep_nil : EP2 X pos [] [] [] dpNil := ⟨pps_nil, sp_nil⟩
theorem ep_cons {x v : Expr} {ks : List (Option Expr)} {vs : List Expr} {tk tv : TE} {dk dv : Dn} {trs : List (TE × TE)} {dr : Dp2} (hk : EE X x tk dk) (hv : EE X v tv dv) (hr : EP2 X pos ks vs trs dr) : EP2 X pos (some x :: ks) (v :: vs) ((tk, tv) :: trs) (dpCons dk dv dr) :=
  ⟨pps_cons hk.p hv.p hr.p, sp_cons hk.s hv.s hr.s⟩
theorem ee_disp {keys : List (Option Expr)} {values : List Expr} {trs : List (TE × TE)} {dp : Dp2} (h : EP2 X pos keys values trs dp) (hall : keys.all (fun z => z.isSome) = true := by rfl) (hl : keys.length = values.length := by rfl) (h0 : keys ≠ [] := by exact fun z => by cases z) (h15 : keys.length ≤ 15 := by decide) :
    EE X (.Dict keys values pos) (tDisp trs) (dDisp dp) := ⟨pe_disp h.p hall hl h0 h15, sn_disp h.s⟩
theorem ee_dget (hr : Room k X.A) (ho : EE X o td dd) (hi : EE X i ty dy) (hs : NoSl i := by exact fun _ _ => rfl) : EE X (.Subscript o i pos) (tDGet td ty) (dOp dgetD dd dy) := ⟨pe_dget (hu_of hr) ho.p hi.p hs, sn_dget ho.s hi.s⟩
end
end Dl
end
section
set_option Elab.async false
set_option linter.all false
set_option maxRecDepth 100000
set_option maxHeartbeats 4000000
namespace Dl
open PySem PySem.Spec PyProof.Rows L2 StX

/-! two readings for one expression -/
theorem pe_or {X : Cx} {e : Expr} {t u : TE} (h1 : PE X e t) (h2 : PE X e u) : PE X e (fun σ H Q => t σ H Q ∨ u σ H Q) :=
  ⟨fun pins s σ H Q I h => h.elim (h1.run pins s σ H Q I) (h2.run pins s σ H Q I)⟩

/-! the keys of a text dict, walked in a comprehension -/
def dKeys (i : Nat) : Da := fun ρ s => match ρ[i]? with
  | some (.im (.dS es)) => some (es.map fun z => D.str z.1, s)
  | _ => none
section
variable {K : PySem.W.Frag} {c : Option Addr} {I H H1 : Hp}
theorem RepS.key : ∀ {kvs : List (Key × V)} {es : List (Str × D)} {i : Nat} {z : Str × D}, RepS K c I kvs es → es[i]? = some z → ∃ v, kvs[i]? = some (.inr z.1, v) ∧ Rep K c I v z.2
  | _, _, _, _, .nil, h => by cases h
  | _, _, 0, z, .cons a r, h => by cases h; exact ⟨_, rfl, a⟩
  | _, _, i + 1, z, .cons a r, h => RepS.key (i := i) r h
theorem OwOk.at_ {p : Addr} {d : D} (h : OwOk K c I H p d) (e : ∀ a, I a = none → H a ≠ none → H1 a = H a) : OwOk K c I H1 p d := by
  cases h with
  | lst h1 h2 h3 h4 => exact .lst (by rw [e _ h3 (by rw [h1]; simp)]; exact h1) h2 h3 h4
  | dS h1 h2 h3 h4 => exact .dS (by rw [e _ h3 (by rw [h1]; simp)]; exact h1) h2 h3 h4
theorem SlL.at_ (e : ∀ a, I a = none → H a ≠ none → H1 a = H a) : ∀ {σ : L2.St} {ρ : List Sl}, SlL K c I H σ ρ → SlL K c I H1 σ ρ
  | _, _, .nil => .nil
  | _, _, .cons (.un o) r => .cons (.un o) (SlL.at_ e r)
  | _, _, .cons (.im a) r => .cons (.im a) (SlL.at_ e r)
  | _, _, .cons (.ow a) r => .cons (.ow (a.at_ e)) (SlL.at_ e r)
theorem sn_lcK {g : TG} {dg : Dg} {i : Nat} {js vs : List Nat} {tt : TT} {bt : Dt} {te : TE} {de : Dn} (hg : SndG K g dg js) (hj : ∀ k ∈ js, k ∈ vs) (ht : SndT K tt bt) (he : SndE K te de) :
    SndE K (fun σ H Q => tLc (iKeys (tVar i)) g tt te vs σ H Q ∨ tLockE (tLc (iKeys (tVar i)) g tt te vs) σ H Q) (dLc (dKeys i) dg bt de vs) := fun c I H σ ρ s d s' e h Q q => by
  have h0 := h
  obtain ⟨⟨xs, s1⟩, h1, _⟩ := bind_some_of h
  obtain ⟨es, hes, rfl, rfl⟩ : ∃ es, ρ[i]? = some (.im (.dS es)) ∧ xs = es.map (fun z => D.str z.1) ∧ s1 = s := by
    unfold dKeys at h1
    split at h1
    · rename_i es q
      cases h1
      exact ⟨es, q, rfl, rfl⟩
    · cases h1
  obtain ⟨v, hv, rv⟩ := e.imm hes
  cases rv with
  | @dS a kvs _ hI r =>
    have ca : c ≠ some a := fun z => by
      obtain ⟨z1, _⟩ := e.w a z
      rw [hI] at z1; cases z1
    -- over a locked dict
    have key : ∀ (H1 : Hp) (ob : Obj), Ec K c I H1 σ ρ s1 → H1 a = some (.frz ob (.dK kvs)) → ∀ (Q1 : VK), (∀ v I' H', Gr c I H1 I' H' → DW K c s' I' H' → Rep K c I' v d → Q1 v H') → tLc (iKeys (tVar i)) g tt te vs σ H1 Q1 := fun H1 ob e1 hf Q1 q1 =>
      lc_core hg hj ht he e1 (fun xs s2 h2 R hR => by
        rw [h1] at h2
        cases h2
        refine ⟨_, hv, a, ob, rfl, .inl ⟨kvs, hf, hR _ I H1 (.refl e1.sub) e1.w fun I2 H2 s12 s22 kp => ?_⟩⟩
        have h2a := kp a _ ca hf
        refine ⟨fun j d' hd => ?_, h2a, by rw [List.length_map, r.length]; exact Nat.le_refl _⟩
        rw [List.getElem?_map] at hd
        obtain ⟨z, hz, rfl⟩ := map_some_of hd
        obtain ⟨v', hk, _⟩ := r.key hz
        refine ⟨⟨h2a, (List.getElem?_eq_some_iff.mp hk).1⟩, fun x H3 hy => ?_⟩
        obtain ⟨rfl, k, w, hw, rfl⟩ := hy
        rw [hk] at hw
        cases hw
        exact ⟨I2, .refl s22, .str _⟩) h0 Q1 q1
    rcases e.sub a _ hI with hf | ⟨_, ob, hf⟩
    · right
      refine ⟨a, .dK kvs, hf, trivial, fun od => ?_⟩
      have ne : ∀ b, I b = none → upd H a (.frz od (.dK kvs)) b = H b := fun b hb => upd_ne fun z => by
        subst z
        rw [hI] at hb; cases hb
      have e1 : Ec K c I (upd H a (.frz od (.dK kvs))) σ ρ s1 := by
        refine ⟨fun b o hb => ?_, fun rr hr => ?_, e.sl.at_ fun b hb _ => ne b hb, e.uq⟩
        · by_cases z : b = a
          · subst z
            rw [hI] at hb; cases hb
            exact .inr ⟨⟨_, rfl⟩, od, upd_same⟩
          · rw [upd_ne z]; exact e.sub b o hb
        · obtain ⟨z1, sc, z2, z3⟩ := e.w rr hr
          exact ⟨z1, sc, by rw [ne rr z1]; exact z2, z3⟩
      refine key _ od e1 upd_same _ fun v I' H' g' w' r' => ?_
      have ha' := g'.kp a _ ca upd_same
      refine ⟨ha', q v I' _ ⟨g'.s1, fun b o hb => ?_, fun b o nb hb => ?_, fun b hb => ?_⟩ (fun rr hr => ?_) r'⟩
      · by_cases z : b = a
        · subst z
          rw [g'.s1 b _ hI] at hb; cases hb
          exact .inl upd_same
        · rw [upd_ne z]; exact g'.s2 b o hb
      · by_cases z : b = a
        · subst z
          rw [hf] at hb; cases hb
          exact upd_same
        · rw [upd_ne z]
          exact g'.kp b o nb (by rw [upd_ne z]; exact hb)
      · rcases g'.nw b hb with z | z
        · exact .inl z
        · by_cases n : b = a
          · subst n; rw [upd_same] at z; cases z
          · rw [upd_ne n] at z; exact .inr z
      · obtain ⟨z1, sc, z2, z3⟩ := w' rr hr
        have n : rr ≠ a := fun z => by rw [z] at hr; exact ca hr
        exact ⟨z1, sc, by rw [upd_ne n]; exact z2, z3⟩
    · left
      exact key H ob e hf Q q
end
section
variable {X : Cx}
theorem ee_lcK {elt tg : Expr} {i : Nat} {x : Str} {px : Pos} {ifs : List Expr} {scope : Scope} {own : List (Str × Nat)} {pos : Pos} {g : TG} {dg : Dg} {js : List Nat} {tt : TT} {bt : Dt} {te : TE} {de : Dn} (hc : X.calm = true) (hN : X.N.Nodup) (hx : EE X (.Name x px) (tVar i) (dVar i))
    (ok : blkC X.N X.env.scope scope own = true) (hg : EGb X scope tg g dg js) (ht : ETb X scope ifs tt bt) (he : EEb X scope elt te de) (hj : ∀ k ∈ js, k ∈ own.map (fun z => z.2) := by decide) (hs : ∀ y, foldedSetIterable (.Name x px) X.env y = pure y := by intro _; rfl) :
    EE X (.ListComp elt [⟨tg, .Name x px, ifs, 0⟩] scope pos) (fun σ H Q => tLc (iKeys (tVar i)) g tt te (own.map (fun z => z.2)) σ H Q ∨ tLockE (tLc (iKeys (tVar i)) g tt te (own.map (fun z => z.2))) σ H Q) (dLc (dKeys i) dg bt de (own.map (fun z => z.2))) :=
  have h1 := pe_lc (elt := elt) (pos := pos) hc hN (pi_keys (tg := tg) hx.p) (blkOk_by ok) hg.p ht.p he.p hs
  ⟨pe_or h1 (pe_lock h1), sn_lcK hg.s hj ht.s he.s⟩
end
end Dl
end
section
set_option Elab.async false
set_option linter.all false
set_option maxRecDepth 100000
set_option maxHeartbeats 4000000
namespace Dl
open PySem PySem.Spec PyProof.Rows L2 StX

/-! new things, owned by one name -/
def SndF (K : PySem.W.Frag) (te : TE) (dn : Dn) : Prop := ∀ c I H σ ρ s d s', Ec K c I H σ ρ s → dn ρ s = some (d, s') →
  ∀ Q : VK, (∀ p I' H', Gr c I H I' H' → DW K c s' I' H' → OwOk K c I' H' p d → H p = none → Q (.ref p) H') → te σ H Q
structure EF (X : Cx) (e : Expr) (te : TE) (dn : Dn) : Prop where
  p : PE X e te
  s : SndF X.K te dn
def dNewK : Dn := fun _ s => some (.dS [], s)
section
variable {K : PySem.W.Frag} {c : Option Addr} {I H I' H' I0 H0 : Hp} {σ : L2.St} {ρ : List Sl} {s s' : Tau} {p : Addr} {d : D}
theorem DW.ne (w : DW K c s I H) (h : H p = none) : c ≠ some p := fun z => by
  obtain ⟨_, sc, z2, _⟩ := w p z
  rw [h] at z2; cases z2
theorem sf_newK : SndF K tDNewK dNewK := fun c I H σ ρ s d s' e h Q q => by
  cases h
  intro p hp
  have hI := e.sub.free hp
  refine q p I _ ⟨.refl _, fun a o z => by rw [upd_ne (ne_of_none z hI)]; exact e.sub a o z, fun a o _ z => by rw [upd_ne (ne_of_none z hp)]; exact z, fun a z => .inl z⟩ (fun r hr => ?_) (.dS upd_same .nil hI (e.w.ne hp)) hp
  obtain ⟨z1, sc, z2, z3⟩ := e.w r hr
  exact ⟨z1, sc, by rw [upd_ne (ne_of_none z2 hp)]; exact z2, z3⟩
theorem sf_disp {trs : List (TE × TE)} {dr : Dp2} (h1 : SndP K trs dr) : SndF K (tDisp trs) (dDisp dr) := fun c I H σ ρ s d s' e h Q q => by
  obtain ⟨⟨es, s1⟩, ha, h⟩ := bind_some_of h
  split at h
  · rename_i hl
    cases h
    intro p hp
    have cD : c ≠ some p := e.w.ne hp
    have hI := e.sub.free hp
    have g0 : Gr c I H I (upd H p (.dK [])) := ⟨.refl _, fun a o z => by rw [upd_ne (ne_of_none z hI)]; exact e.sub a o z, fun a o _ z => by rw [upd_ne (ne_of_none z hp)]; exact z, fun a z => .inl z⟩
    have w0 : DW K c s I (upd H p (.dK [])) := fun r hr => by
      obtain ⟨z1, sc, z2, z3⟩ := e.w r hr
      exact ⟨z1, sc, by rw [upd_ne (ne_of_none z2 hp)]; exact z2, z3⟩
    refine h1 _ _ _ _ _ _ _ _ (e.grow g0 w0) ha _ fun kvs I1 H1 g1 w1 r1 => ?_
    have hp1 : H1 p = some (.dK []) := g1.kp _ _ cD upd_same
    have hI1 : I1 p = none := by
      cases qq : I1 p with
      | none => rfl
      | some o =>
        rcases g1.nw p (by rw [qq]; simp) with z | z
        · exact absurd hI z
        · rw [upd_same] at z; cases z
    refine ⟨hp1, kvs, rfl, by rw [r1.length]; exact hl, q p I1 _ ⟨g0.s1.trans g1.s1, fun a o z => ?_, fun a o n z => ?_, fun a z => ?_⟩ (fun r hr => ?_) (.dS upd_same (RepS.merge r1 .nil) hI1 cD) hp⟩
    · rw [upd_ne (ne_of_none z hI1)]; exact g1.s2 a o z
    · rw [upd_ne (ne_of_none z hp)]
      exact g1.kp a o n (g0.kp a o n z)
    · rcases g1.nw a z with z | z
      · exact .inl z
      · by_cases n : a = p
        · subst n; exact .inr hp
        · rw [upd_ne n] at z; exact .inr z
    · obtain ⟨z1, sc, z2, z3⟩ := w1 r hr
      have n : r ≠ p := fun z => cD (by rw [hr, z])
      exact ⟨z1, sc, by rw [upd_ne n]; exact z2, z3⟩
  · cases h
/-- a new list from a written one -/
theorem sf_lst {tx : TA} {ax : Da} (h1 : SndA K tx ax) : SndF K (tLst tx) (dLst ax) := fun c I H σ ρ s d s' e h Q q => by
  obtain ⟨⟨xs, s1⟩, ha, h⟩ := bind_some_of h
  split at h
  · rename_i hl
    have hl : xs.length ≤ 1000000 := hl
    cases h
    refine h1 _ _ _ _ _ _ _ _ e ha _ fun vs I1 H1 g1 w1 r1 => ⟨?_, fun p hp => ?_⟩
    · rw [r1.length]
      exact Nat.le_trans hl (by decide)
    · have hI := g1.s2.free hp
      have h0 : H p = none := by
        cases qq : H p with
        | none => rfl
        | some o =>
          rw [g1.kp p o (w1.ne hp) qq] at hp; cases hp
      refine q p I1 _ ⟨g1.s1, fun a o z => by rw [upd_ne (ne_of_none z hI)]; exact g1.s2 a o z, fun a o n z => by rw [upd_ne (ne_of_none z h0)]; exact g1.kp a o n z, g1.nw⟩ (fun r hr => ?_) (.lst upd_same r1 hI (w1.ne hp)) h0
      obtain ⟨z1, sc, z2, z3⟩ := w1 r hr
      exact ⟨z1, sc, by rw [upd_ne (ne_of_none z2 hp)]; exact z2, z3⟩
  · cases h
/-- the owned thing is set -/
theorem Uq.setO {i : Nat} (e : Ec K c I H σ ρ s) (h : ∀ (j : Nat) (d : D), j ≠ i → σ[j]? = some (some (V.ref p)) → ρ[j]? = some (.ow d) → False) : Uq (σ.set i (some (.ref p))) (ρ.set i (.ow d)) := fun k j q d1 d2 hne h1 h2 h3 h4 => by
  by_cases hk : k = i
  · subst hk
    have nj : j ≠ k := fun z => hne z.symm
    rw [List.getElem?_set_ne (Ne.symm nj)] at h2 h4
    rw [List.getElem?_set] at h1
    simp only [if_true] at h1
    split at h1
    · cases h1; exact h j d2 nj h2 h4
    · cases h1
  · rw [List.getElem?_set_ne (Ne.symm hk)] at h1 h3
    by_cases hj : j = i
    · subst hj
      rw [List.getElem?_set] at h2
      simp only [if_true] at h2
      split at h2
      · cases h2; exact h k d1 hk h1 h3
      · cases h2
    · rw [List.getElem?_set_ne (Ne.symm hj)] at h2 h4
      exact e.uq k j q d1 d2 hne h1 h2 h3 h4
theorem EnvS.setO (e : EnvS K c I0 H0 I H σ ρ s) (o : OwOk K c I H p d) (n : ∀ (j : Nat) (d : D), σ[j]? = some (some (V.ref p)) → ρ[j]? = some (.ow d) → False) (h0 : H0 p = none) (i : Nat) : EnvS K c I0 H0 I H (σ.set i (some (.ref p))) (ρ.set i (.ow d)) s :=
  ⟨⟨e.env.sub, e.env.w, .set (.ow o) i e.env.sl, .setO e.env fun j d _ => n j d⟩, e.s0, e.kp, e.nw, fun j q d' h1 h2 => by
    by_cases z : j = i
    · subst z
      rw [List.getElem?_set] at h1
      simp only [if_true] at h1
      split at h1
      · cases h1; exact h0
      · cases h1
    · rw [List.getElem?_set_ne (Ne.symm z)] at h1 h2
      exact e.fr j q d' h1 h2, e.nc⟩
/-- what a slot owns stands in the heap -/
theorem OwOk.some_ (h : OwOk K c I H p d) : H p ≠ none := by
  cases h with
  | lst h1 => rw [h1]; simp
  | dS h1 => rw [h1]; simp
theorem OwOk.fr (h : OwOk K c I H p d) : I p = none ∧ c ≠ some p := by
  cases h with
  | lst _ _ h3 h4 => exact ⟨h3, h4⟩
  | dS _ _ h3 h4 => exact ⟨h3, h4⟩
theorem Ec.ow (e : Ec K c I H σ ρ s) {i : Nat} (h : ρ[i]? = some (.ow d)) : ∃ p, σ[i]? = some (some (.ref p)) ∧ OwOk K c I H p d := by
  obtain ⟨v, h1, h2⟩ := e.sl.get h
  cases h2 with
  | ow r => exact ⟨_, h1, r⟩
end
def dOwn (da : Dn) (i : Nat) : Ds := fun ρ s => (da ρ s).map fun p => (.nx (ρ.set i (.ow p.1)), p.2)
/-- what is owned is owned no more: from here on it stays as it is -/
def dFrz (i : Nat) (b : Ds) : Ds := fun ρ s => match ρ[i]? with
  | some (.ow d) => b (ρ.set i (.im d)) s
  | _ => none
def dRetO (i : Nat) : Ds := fun ρ s => match ρ[i]? with
  | some (.ow d) => some (.rt d true, s)
  | _ => none
def dDPut (i : Nat) (dk dv : Dn) : Ds := fun ρ s => (dv ρ s).bind fun v => (dk ρ v.2).bind fun k => match k.1, ρ[i]? with
  | .str x, some (.ow (.dS es)) => if es.length < 1000000 then some (.nx (ρ.set i (.ow (.dS (putD es x v.1)))), k.2) else none
  | _, _ => none
section
variable {K : PySem.W.Frag} {te ty tv : TE} {da dk dv : Dn} {t : TS} {b : Ds}
theorem ss_own (h1 : SndF K te da) (i : Nat) : SndS K (tAsg te (gName i)) (dOwn da i) := fun c I0 H0 I H σ ρ s o s' e h D q => by
  obtain ⟨⟨x, s1⟩, ha, h⟩ := map_some_of h
  cases h
  refine h1 _ _ _ _ _ _ _ _ e.env ha _ fun p I1 H1 g1 w1 o1 hp => ?_
  refine q _ _ _ ((e.grow g1 w1).setO o1 (fun j d a b => ?_) (e.old hp) i)
  obtain ⟨p2, hp2, o2⟩ := e.env.ow b
  rw [a] at hp2
  cases hp2
  exact o2.some_ hp
theorem EnvS.frz {c : Option Addr} {I0 H0 I H : Hp} {σ : L2.St} {ρ : List Sl} {s : Tau} {d : D} {i : Nat} (e : EnvS K c I0 H0 I H σ ρ s) (h : ρ[i]? = some (.ow d)) : ∃ I', Sb I I' ∧ EnvS K c I0 H0 I' H σ (ρ.set i (.im d)) s := by
  obtain ⟨p, hp, o⟩ := e.env.ow h
  obtain ⟨fI, cp⟩ := o.fr
  have h0 := e.fr i p d hp h
  have others : ∀ (ob : HO), ∀ {σ' : L2.St} {ρ' : List Sl}, (∀ (j : Nat) (d : D), σ'[j]? = some (some (V.ref p)) → ρ'[j]? = some (.ow d) → False) → SlL K c I H σ' ρ' → SlL K c (upd I p ob) H σ' ρ' := fun ob {σ' ρ'} n sl => by
    have sI : Sb I (upd I p ob) := fun a u z => by rw [upd_ne (ne_of_none z fI)]; exact z
    induction sl with
    | nil => exact .nil
    | @cons v x σ2 ρ2 a r ih =>
      refine .cons ?_ (ih fun j d z1 z2 => n (j + 1) d (by simpa using z1) (by simpa using z2))
      cases a with
      | un => exact .un _
      | im a => exact .im (a.mono sI)
      | @ow p2 d2 o2 =>
        have np : p2 ≠ p := fun z => n 0 d2 (by rw [z]; rfl) rfl
        refine .ow ?_
        cases o2 with
        | lst h1 h2 h3 h4 => exact .lst h1 (h2.mono sI) (by rw [upd_ne np]; exact h3) h4
        | dS h1 h2 h3 h4 => exact .dS h1 (h2.mono sI) (by rw [upd_ne np]; exact h3) h4
  have fin : ∀ (ob : HO), H p = some ob → Rep K c (upd I p ob) (.ref p) d → ∃ I', Sb I I' ∧ EnvS K c I0 H0 I' H σ (ρ.set i (.im d)) s := fun ob hb r => by
    have sI : Sb I (upd I p ob) := fun a u z => by rw [upd_ne (ne_of_none z fI)]; exact z
    refine ⟨upd I p ob, sI, ⟨fun a u z => ?_, fun rr hr => ?_, ?_, ?_⟩, e.s0.trans sI, e.kp, fun a z => ?_, fun j q d' h1 h2 => ?_, e.nc⟩
    · by_cases n : a = p
      · subst n; rw [upd_same] at z; cases z; exact .inl hb
      · rw [upd_ne n] at z; exact e.env.sub a u z
    · obtain ⟨z1, sc, z2, z3⟩ := e.env.w rr hr
      have n : rr ≠ p := fun z => cp (by rw [hr, z])
      exact ⟨by rw [upd_ne n]; exact z1, sc, z2, sb_sqL sI z3⟩
    · have slot : SlL K c I H σ (ρ.set i .un) := by
        have := SlL.set (v := some (V.ref p)) (x := .un) (.un _) i e.env.sl
        have eq : σ.set i (some (V.ref p)) = σ := by
          apply List.ext_getElem?
          intro j
          by_cases z : i = j
          · subst z
            rw [List.getElem?_set]
            have hl := (List.getElem?_eq_some_iff.mp hp).1
            simp only [if_true, hl, hp]
          · rw [List.getElem?_set_ne z]
        rw [eq] at this
        exact this
      have s2 := others ob (σ' := σ) (ρ' := ρ.set i .un) (fun j d' z1 z2 => by
        by_cases z : i = j
        · subst z
          rw [List.getElem?_set] at z2
          simp only [if_true] at z2
          split at z2 <;> cases z2
        · rw [List.getElem?_set_ne z] at z2
          exact e.env.uq i j p d d' z hp z1 h z2) slot
      have s3 := SlL.set (v := some (V.ref p)) (x := .im d) (.im r) i s2
      have eq : σ.set i (some (V.ref p)) = σ := by
        apply List.ext_getElem?
        intro j
        by_cases z : i = j
        · subst z
          rw [List.getElem?_set]
          have hl := (List.getElem?_eq_some_iff.mp hp).1
          simp only [if_true, hl, hp]
        · rw [List.getElem?_set_ne z]
      rw [eq, List.set_set] at s3
      exact s3
    · have u := e.env.uq.setI (i := i) (v := some (V.ref p)) (x := .im d) (fun _ z => by cases z)
      have eq : σ.set i (some (V.ref p)) = σ := by
        apply List.ext_getElem?
        intro j
        by_cases z : i = j
        · subst z
          rw [List.getElem?_set]
          have hl := (List.getElem?_eq_some_iff.mp hp).1
          simp only [if_true, hl, hp]
        · rw [List.getElem?_set_ne z]
      rw [eq] at u
      exact u
    · by_cases n : a = p
      · subst n; exact .inr h0
      · rw [upd_ne n] at z; exact e.nw a z
    · by_cases z : i = j
      · subst z
        rw [List.getElem?_set] at h2
        simp only [if_true] at h2
        split at h2 <;> cases h2
      · rw [List.getElem?_set_ne z] at h2
        exact e.fr j q d' h1 h2
  cases o with
  | @lst vs ds h1 h2 h3 h4 =>
    have sI : Sb I (upd I p (.lst vs)) := fun a u z => by rw [upd_ne (ne_of_none z fI)]; exact z
    exact fin (.lst vs) h1 (.lst upd_same (h2.mono sI))
  | @dS vs ds h1 h2 h3 h4 =>
    have sI : Sb I (upd I p (.dK vs)) := fun a u z => by rw [upd_ne (ne_of_none z fI)]; exact z
    exact fin (.dK vs) h1 (.dS upd_same (h2.mono sI))
theorem ss_frz {i : Nat} (h1 : SndS K t b) : SndS K t (dFrz i b) := fun c I0 H0 I H σ ρ s o s' e h D q => by
  unfold dFrz at h
  split at h
  · rename_i d hd
    obtain ⟨I', _, e'⟩ := e.frz hd
    exact h1 _ _ _ _ _ _ _ _ _ _ e' h D q
  · cases h
theorem ss_retO (i : Nat) : SndS K (tRet (tVar i)) (dRetO i) := fun c I0 H0 I H σ ρ s o s' e h D q => by
  unfold dRetO at h
  split at h
  · rename_i d hd
    cases h
    obtain ⟨p, hp, o⟩ := e.env.ow hd
    exact ⟨.ref p, hp, q p I H e.gr e.env.w o (e.fr i p d hp hd)⟩
  · cases h
theorem RepS.putL {c : Option Addr} {I : Hp} {kvs : List (Key × V)} {es : List (Str × D)} {k : Str} {v : V} {d : D} (r : RepS K c I kvs es) (rv : Rep K c I v d) : RepS K c I (putK kvs (.inr k) v) (putD es k d) := r.put rv
theorem ss_dput (i : Nat) (hk : SndE K ty dk) (hv : SndE K tv dv) : SndS K (sDPut (tVar i) ty tv) (dDPut i dk dv) := fun c I0 H0 I H σ ρ s o s' e h En q => by
  obtain ⟨⟨y, s1⟩, ha, h⟩ := bind_some_of h
  obtain ⟨⟨x, s2⟩, hb, h⟩ := bind_some_of h
  refine hv _ _ _ _ _ _ _ _ e.env ha _ fun v I1 H1 g1 w1 r1 => ?_
  have e1 := e.grow g1 w1
  split at h
  · rename_i k es hkk hs
    have hkk : x = .str k := hkk
    subst hkk
    split at h
    · rename_i hl
      cases h
      obtain ⟨p, hp, _⟩ := e1.env.ow hs
      refine ⟨.ref p, hp, hk _ _ _ _ _ _ _ _ e1.env hb _ fun u I2 H2 g2 w2 r2 => ?_⟩
      have e2 := e1.grow g2 w2
      obtain ⟨p2, hp2, o2⟩ := e2.env.ow hs
      rw [hp] at hp2
      cases hp2
      cases r2 with
      | str =>
        cases o2 with
        | @dS kvs _ h1 h2 h3 h4 =>
          refine ⟨p, _, rfl, .inl ⟨kvs, .inr k, h1, rfl, ?_, rfl⟩, ?_⟩
          · rw [h2.length]; exact Nat.lt_of_lt_of_le hl (by decide)
          · have rr := h2.putL (k := k) (r1.mono g2.s1)
            have h0 := e2.fr i p _ hp hs
            have others : ∀ a, I2 a = none → a ≠ p → upd H2 p (.dK (putK kvs (.inr k) v)) a = H2 a := fun a _ n => upd_ne n
            have eq : σ.set i (some (V.ref p)) = σ := by
              apply List.ext_getElem?
              intro j
              by_cases z : i = j
              · subst z
                rw [List.getElem?_set]
                have hl := (List.getElem?_eq_some_iff.mp hp).1
                simp only [if_true, hl, hp]
              · rw [List.getElem?_set_ne z]
            have sl2 : ∀ {σ' : L2.St} {ρ' : List Sl}, (∀ (j : Nat) (d : D), σ'[j]? = some (some (V.ref p)) → ρ'[j]? = some (.ow d) → False) → SlL K c I2 H2 σ' ρ' → SlL K c I2 (upd H2 p (.dK (putK kvs (.inr k) v))) σ' ρ' := fun {σ' ρ'} n sl => by
              induction sl with
              | nil => exact .nil
              | @cons v x σ2 ρ2 a r ih =>
                refine .cons ?_ (ih fun j d z1 z2 => n (j + 1) d (by simpa using z1) (by simpa using z2))
                cases a with
                | un => exact .un _
                | im a => exact .im a
                | @ow p2 d2 o2 =>
                  have np : p2 ≠ p := fun z => n 0 d2 (by rw [z]; rfl) rfl
                  refine .ow ?_
                  cases o2 with
                  | lst h1 h2 h3 h4 => exact .lst (by rw [upd_ne np]; exact h1) h2 h3 h4
                  | dS h1 h2 h3 h4 => exact .dS (by rw [upd_ne np]; exact h1) h2 h3 h4
            have slot := SlL.set (v := some (V.ref p)) (x := .un) (.un _) i e2.env.sl
            rw [eq] at slot
            have s2' := sl2 (σ' := σ) (ρ' := ρ.set i .un) (fun j d' z1 z2 => by
              by_cases z : i = j
              · subst z
                rw [List.getElem?_set] at z2
                simp only [if_true] at z2
                split at z2 <;> cases z2
              · rw [List.getElem?_set_ne z] at z2
                exact e2.env.uq i j p _ d' z hp z1 hs z2) slot
            have s3 := SlL.set (v := some (V.ref p)) (x := .ow (.dS (putD es k y))) (.ow (.dS upd_same rr h3 h4)) i s2'
            rw [eq, List.set_set] at s3
            refine q _ I2 _ ⟨⟨fun a u z => ?_, fun rr hr => ?_, s3, ?_⟩, e2.s0, fun a u n z => ?_, e2.nw, fun j q' d' h1' h2' => ?_, e2.nc⟩
            · rw [upd_ne (ne_of_none z h3)]; exact e2.env.sub a u z
            · obtain ⟨z1, sc, z2, z3⟩ := e2.env.w rr hr
              have n : rr ≠ p := fun z => h4 (by rw [hr, z])
              exact ⟨z1, sc, by rw [upd_ne n]; exact z2, z3⟩
            · have u := Uq.setO (i := i) (p := p) (d := .dS (putD es k y)) e2.env (fun j d' nj z1 z2 => e2.env.uq i j p _ d' (Ne.symm nj) hp z1 hs z2)
              rw [eq] at u
              exact u
            · have n2 : a ≠ p := fun z2 => by rw [z2, h0] at z; cases z
              rw [upd_ne n2]; exact e2.kp a u n z
            · by_cases z : i = j
              · subst z
                rw [hp] at h1'; cases h1'
                exact h0
              · rw [List.getElem?_set_ne z] at h2'
                exact e2.fr j q' d' h1' h2'
    · cases h
  · cases h
end
end Dl
end
section
set_option Elab.async false
set_option linter.all false
set_option maxRecDepth 100000
set_option maxHeartbeats 4000000
namespace HT
open PySem PySem.Spec PyProof.Rows
section
variable {prog : Program} {w : World} {A : Around} {E : Value → Shared → Prop} {s : Shared}
theorem sliceApplied_rev {sl : Addr} {vl vu vs : Value} {n : Nat} {Q : Int × Int × Nat → Shared → Prop} (hs : s.heap.IsSliceOf sl vl vu vs) (pl : IsPart vl none) (pu : IsPart vu none) (ps : IsPart vs (some (-1)))
    (h : Q ((n : Int) - 1, -1, n) s) : wpAny (model prog w) A (Builtin.Slice.sliceApplied (.ref sl) (pure (n : Int))) Q E s := by
  obtain ⟨os, hos, hcs, hds⟩ := id hs
  unfold Builtin.Slice.sliceApplied Builtin.Slice.sliceFields
  refine wpAny_bind (wpAny_bind (wpAny_field hos hds (x := vl) rfl (wpAny_bind (wpAny_field hos hds (x := vu) rfl (wpAny_bind (wpAny_field hos hds (x := vs) rfl (wpAny_pure ?_)))))))
  refine wpAny_bind (slicePart_ ps ?_)
  show wpAny _ _ (if ((-1 : Int) == 0) = true then _ else _) _ _ s
  rw [if_neg (by decide)]
  refine wpAny_bind (slicePart_ pl (wpAny_bind (slicePart_ pu (wpAny_bind (wpAny_pure ?_)))))
  show wpAny _ _ (pure ((n : Int) - 1, (-1 : Int), Builtin.Slice.slicePlaces ((n : Int) - 1) (-1) (-1))) _ _ s
  have e : Builtin.Slice.slicePlaces ((n : Int) - 1) (-1) (-1) = n := by
    unfold Builtin.Slice.slicePlaces
    by_cases h0 : n = 0
    · subst h0; decide
    · simp only [show ¬ ((-1 : Int) > 0) by decide, if_false]
      split
      · rw [show (- -1 : Int) = 1 by decide, Int.ediv_one]; omega
      · omega
  rw [e]
  exact wpAny_pure h
theorem pick_rev (xs : Array Value) : ((List.range xs.size).filterMap fun (m : Nat) => xs[(((xs.size : Int) - 1) + (m : Int) * -1).toNat]?).toArray = xs.toList.reverse.toArray := by
  have e : ((List.range xs.size).filterMap fun (m : Nat) => xs[(((xs.size : Int) - 1) + (m : Int) * -1).toNat]?) = ((List.range xs.size).map fun k => xs.size - 1 - k).filterMap (xs[·]?) := by
    rw [List.filterMap_map]
    have key : ∀ l : List Nat, (∀ m ∈ l, m < xs.size) → (l.filterMap fun (m : Nat) => xs[(((xs.size : Int) - 1) + (m : Int) * -1).toNat]?) = l.filterMap ((fun k => xs[k]?) ∘ fun k => xs.size - 1 - k) := fun l => by
      induction l with
      | nil => exact fun _ => rfl
      | cons m l ih =>
        intro h
        have hm := h m List.mem_cons_self
        rw [List.filterMap_cons, List.filterMap_cons, ih fun z hz => h z (List.mem_cons_of_mem _ hz)]
        have e2 : (((xs.size : Int) - 1) + (m : Int) * -1).toNat = xs.size - 1 - m := by omega
        rw [e2]
        rfl
    exact key _ fun m hm => List.mem_range.mp hm
  rw [e, PySem.W.krv_range, List.filterMap_reverse, PySem.W.krv_all]
theorem getItem_tuple_rev {t sl : Addr} {items : Array Value} {vl vu vs : Value} {Q : Value → Shared → Prop} (ht : IsTup s.heap t items) (hs : s.heap.IsSliceOf sl vl vu vs) (pl : IsPart vl none) (pu : IsPart vu none) (ps : IsPart vs (some (-1)))
    (h : Q (.ref s.heap.objs.size) { s with heap := s.heap.push { cls := .type "tuple", data := .seq items.toList.reverse.toArray } })
    (hsz : items.size ≤ sizeLine) : wpAny (model prog w) A (getItem (.ref t) (.ref sl)) Q E s := by
  have htake : sizeOk (.seq items.toList.reverse.toArray) := by
    show items.toList.reverse.toArray.size ≤ sizeLine
    rw [List.size_toArray, List.length_reverse, Array.length_toList]
    exact hsz
  obtain ⟨os, hos, hcs, hds⟩ := id hs
  have hTs : s.TypeIs (.ref sl) "slice" := ⟨os, hos, hcs⟩
  unfold getItem
  try with_reducible refine wpAny_holding ?_
  first | refine wpAny_bind (wpAny_pure ?_) | skip
  refine wpAny_bind (wpAny_sequenceKey ht.typeIs (by decide) ?_)
  refine wpAny_bind (wpAny_callSpecial?_slot (name := Str.ofString "__getitem__") ht.typeIs PyProof.Rows.slot_tuple_getitem
    (wpAny_call_entry PyProof.Rows.slot_tuple_getitem ht.typeIs entry_tuple_getitem ?_ (args_tuple_getitem _ _)))
  show wpAny _ _ (Builtin.Tuple.tupleItemsOf (.ref t) >>= _) _ _ s
  refine wpAny_bind (tupleItemsOf_ ht ?_)
  refine wpAny_bind (wpAny_typeOf hTs ?_)
  rw [if_pos (by decide)]
  refine wpAny_bind (sliceApplied_rev hs pl pu ps ?_)
  have hno : ¬ ((((items.size : Int) - 1) == 0 && (-1 : Int) == 1 && items.size == items.size) = true) := by
    intro q
    rw [Bool.and_eq_true, Bool.and_eq_true] at q
    exact absurd q.1.2 (by decide)
  show wpAny _ _ (if (((items.size : Int) - 1) == 0 && (-1 : Int) == 1 && items.size == items.size) = true then _ else _) _ _ s
  rw [if_neg hno, pick_rev]
  first
    | exact wpAny_bind (m := Builtin.Tuple.tupleExact _) (wpAny_newObj_type (wpAny_pure ⟨_, rfl, wpAny_pure h⟩) htake)
    | exact wpAny_bind (m := Builtin.Tuple.tupleExact _) (wpAny_newObj_type (wpAny_bind (wpAny_pure (wpAny_pure ⟨_, rfl, wpAny_pure h⟩))) htake)
    | exact wpAny_bind (wpAny_bind (m := Builtin.Tuple.tupleExact _) (wpAny_newObj_type (wpAny_pure (wpAny_pure ⟨_, rfl, wpAny_pure h⟩)) htake))
    | exact wpAny_bind (wpAny_bind (m := Builtin.Tuple.tupleExact _) (wpAny_newObj_type (wpAny_pure ⟨_, rfl, wpAny_pure h⟩) htake))
end
end HT
namespace Dl
open PySem PySem.Spec PyProof.Rows L2 StX
/-! xs[::-1] of a tuple -/
def tRevT (K : PySem.W.Frag) (te : TE) : TE := fun σ H Q => te σ H fun x H1 => ∃ a xs, x = .ref a ∧ SqT K H1 a xs ∧ ∀ (p : Addr) (o : Obj), H1 p = none → TupO o → Q (.ref p) (upd H1 p (.frz o (.tup xs.reverse)))
theorem pe_revT {X : Cx} {e : Expr} {te : TE} {k : Nat} {p1 p2 p3 pos : Pos} (he : PE X e te) : PE X (.Subscript e (.Slice none none (some (.UnaryOp .USub (.Constant (.int 1) k p1) p2)) p3) pos) (tRevT X.K te) := by
  refine ⟨fun pins s σ H Q I h => ?_⟩
  refine Subscript_ (thn (he.run pins s σ H _ I h) fun v s1 ⟨x, H1, I1, r1, q1⟩ => ?_)
  obtain ⟨a, xs, ex, hx, q⟩ := q1
  subst ex
  cases r1
  have hst : PO X (some (.UnaryOp .USub (.Constant (.int 1) k p1) p2)) (tPart (tUn (rU fun i => .int (-i)) (tC (.int 1)))) := po_some (pe_un un_neg pe_int)
  refine wpAny_Slice (thn (po_none.run pins s1 σ H1 (fun o H2 => o = none ∧ H2 = H1) I1 ⟨rfl, rfl⟩) fun vl s2 ⟨l, H2, I2, pl, el, e2⟩ => ?_)
  subst el e2
  refine thn (po_none.run pins s2 σ H2 (fun o H3 => o = none ∧ H3 = H2) I2 ⟨rfl, rfl⟩) fun vu s3 ⟨u, H3, I3, pu, eu, e3⟩ => ?_
  subst eu e3
  refine thn (hst.run pins s3 σ H3 (fun o H4 => o = some (-1) ∧ H4 = H3) I3 ⟨1, rfl, -1, rfl, rfl, rfl⟩) fun vs s4 ⟨o, H4, I4, ps, eo, e4⟩ => ?_
  subst eo e4
  have I5 : Inv X pins σ H4 { s4 with heap := s4.heap.push { cls := .type "slice", data := .fields #[vl, vu, vs] } } := I4.kept (t' := s4.toks) fun b ob q => Heap.get?_push_of_some _ q
  obtain ⟨its, r, ht, hz⟩ := I5.tuple hx
  have hlen : its.toArray.size = xs.length := by rw [List.size_toArray]; exact r.length.symm
  show wpAny (model X.prog X.w) X.A (subscriptTail e (.Slice none none (some (.UnaryOp .USub (.Constant (.int 1) k p1) p2)) p3) (.ref a) (.ref s4.heap.objs.size)) (EP X pins σ Q) X.xe { s4 with heap := s4.heap.push { cls := .type "slice", data := .fields #[vl, vu, vs] } }
  refine tail_any (ops := [.ref a, .ref s4.heap.objs.size]) ht.typeIs (PyProof.Rows.slot_tuple_getitem.lookup) ?_ (by with_unfolding_all rfl)
  refine HT.getItem_tuple_rev ht (Heap.IsSliceOf.new _ vl vu vs) pl pu ps ?_ (by rw [hlen]; exact hz)
  have hg : ((s4.heap.push { cls := .type "slice", data := .fields #[vl, vu, vs] }).push { cls := .type "tuple", data := .seq its.toArray.toList.reverse.toArray }).get? (s4.heap.push { cls := .type "slice", data := .fields #[vl, vu, vs] }).objs.size = some { cls := .type "tuple", data := .seq its.toArray.toList.reverse.toArray } := Heap.get?_push_size _ rfl
  refine ⟨.ref _, _, I5.laid (t' := s4.toks) (o := .frz { cls := .type "tuple", data := .seq its.toArray.toList.reverse.toArray } (.tup xs.reverse)) (fun b ob q => Heap.get?_push_of_some _ q) (Nat.le_refl _) ⟨hg, by rw [List.length_reverse]; exact hz, _, r.reverse, _, hg, rfl, _, rfl⟩, rfl, q _ _ (I5.hok.fresh (Nat.le_refl _)) ⟨rfl, rfl⟩⟩
def revD : D → Option D
  | .lst xs => some (.lst xs.reverse)
  | d => d.asT.map fun xs => .tup xs.reverse
theorem RepL.reverse {K : PySem.W.Frag} {c : Option Addr} {I : Hp} : ∀ {vs : List V} {ds : List D}, RepL K c I vs ds → RepL K c I vs.reverse ds.reverse
  | _, _, .nil => .nil
  | _, _, .cons a r => by
    rw [List.reverse_cons, List.reverse_cons]
    exact (RepL.reverse r).app (.one a)
theorem sn_rev {K : PySem.W.Frag} {te : TE} {da : Dn} (h1 : SndE K te da) : SndE K (fun σ H Q => tRevL K te σ H Q ∨ tRevT K te σ H Q) (dUn revD da) := fun c I H σ ρ s d s' e h Q q => by
  obtain ⟨⟨x, s1⟩, h2, h⟩ := bind_some_of h
  obtain ⟨z, h3, h⟩ := map_some_of h
  cases h
  have h3 : revD x = some _ := h3
  unfold revD at h3
  split at h3
  · cases h3
    left
    refine h1 _ _ _ _ _ _ _ _ e h2 _ fun v I1 H1 g1 w1 r1 => ?_
    cases r1 with
    | @lst a vs _ hI r =>
      refine ⟨a, vs, rfl, .of (g1.s2.lst hI), fun p hp => ?_⟩
      have g := Gr.new (o := .lst vs.reverse) g1.s2 hp
      exact q _ _ _ (g1.tr w1 g.up) (w1.gr g) (.lst upd_same (r.reverse.mono g.s1))
  · obtain ⟨xs, h4, rfl⟩ := map_some_of h3
    right
    refine h1 _ _ _ _ _ _ _ _ e h2 _ fun v I1 H1 g1 w1 r1 => ?_
    obtain ⟨a, vs, rfl, ha, ra⟩ := r1.asT h4
    refine ⟨a, vs, rfl, g1.s2.sqT ha, fun p o hp ho => ?_⟩
    have g := Gr.new (o := .frz o (.tup vs.reverse)) g1.s2 hp
    exact q _ _ _ (g1.tr w1 g.up) (w1.gr g) (.tup upd_same ho (ra.reverse.mono g.s1))
section
variable {X : Cx}
theorem ee_rev {e : Expr} {te : TE} {da : Dn} {k : Nat} {p1 p2 p3 pos : Pos} (he : EE X e te da) : EE X (.Subscript e (.Slice none none (some (.UnaryOp .USub (.Constant (.int 1) k p1) p2)) p3) pos) (fun σ H Q => tRevL X.K te σ H Q ∨ tRevT X.K te σ H Q) (dUn revD da) :=
  ⟨pe_or (pe_revL he.p) (pe_revT he.p), sn_rev he.s⟩
end
/-! x is True -/
def isBD : D → D → Option D
  | .bl a, .bl b => some (.bl (decide (a = b)))
  | _, _ => none
def notBD : D → D → Option D
  | .bl a, .bl b => some (.bl (!decide (a = b)))
  | _, _ => none
theorem s2_isB {K : PySem.W.Frag} : Snd2 K rIsB isBD := fun c I H x y d e z s rx ry h Q q => by
  unfold isBD at h
  split at h
  · cases h; cases rx; cases ry
    exact ⟨_, _, rfl, rfl, q.val s (.bl _)⟩
  · cases h
theorem s2_notB {K : PySem.W.Frag} : Snd2 K rNotB notBD := fun c I H x y d e z s rx ry h Q q => by
  unfold notBD at h
  split at h
  · cases h; cases rx; cases ry
    exact ⟨_, _, rfl, rfl, q.val s (.bl _)⟩
  · cases h
theorem cm_isB {X : Cx} : CM X .Is rIsB isBD := ⟨op_isBl, s2_isB⟩
theorem cm_notB {X : Cx} : CM X .IsNot rNotB notBD := ⟨op_notBl, s2_notB⟩
/-! owned things: statements -/
def dParO (i j : Nat) (da db : Dn) : Ds := fun ρ s => (da ρ s).bind fun p => (db ρ p.2).map fun q => (.nx ((ρ.set i (.ow p.1)).set j (.im q.1)), q.2)
theorem ss_parO {K : PySem.W.Frag} {t1 t2 : TE} {da db : Dn} (i j : Nat) (h1 : SndF K t1 da) (h2 : SndE K t2 db) : SndS K (tPar i j (tCons t1 (tCons t2 tNil))) (dParO i j da db) := fun c I0 H0 I H σ ρ s o s' e h D q => by
  obtain ⟨⟨x, s1⟩, ha, h⟩ := bind_some_of h
  obtain ⟨⟨y, s2⟩, hb, h⟩ := map_some_of h
  cases h
  refine h1 _ _ _ _ _ _ _ _ e.env ha _ fun p I1 H1 g1 w1 o1 hp => ?_
  have e1 := e.grow g1 w1
  refine h2 _ _ _ _ _ _ _ _ e1.env hb _ fun v I2 H2 g2 w2 r2 => ?_
  refine ⟨_, _, rfl, q _ _ _ (((e1.grow g2 w2).setO (o1.grow g2) (fun k d a b => ?_) (e.old hp) i).setI r2 j)⟩
  obtain ⟨p2, hp2, o2⟩ := e.env.ow b
  rw [a] at hp2
  cases hp2
  exact o2.some_ hp
section
variable {X : Cx} {e e1 e2 k v : Expr} {te ty tv t1 t2 : TE} {da dk dv db : Dn} {sts : List Stmt} {t : TS} {b : Ds} {pos pos' : Pos}
theorem ef_newK : EF X (.Dict [] [] pos) tDNewK dNewK := ⟨pe_dnewK, sf_newK⟩
theorem ef_disp {keys : List (Option Expr)} {values : List Expr} {trs : List (TE × TE)} {dp : Dp2} (h : EP2 X pos keys values trs dp) (hall : keys.all (fun z => z.isSome) = true := by rfl) (hl : keys.length = values.length := by rfl) (h0 : keys ≠ [] := by exact fun z => by cases z) (h15 : keys.length ≤ 15 := by decide) :
    EF X (.Dict keys values pos) (tDisp trs) (dDisp dp) := ⟨pe_disp h.p hall hl h0 h15, sf_disp h.s⟩
theorem es_own {i : Nat} {x : Str} (hN : X.N.Nodup) (hi : X.N[i]? = some x) (hx : Loc X.env.scope x) (he : EF X e te da) (hs : swapsWith e (some (.Name x pos')) pos.line X.env = pure false := by rfl) (hf : X.fn x = true ∨ X.env.scope.names.lookup x = some .local := by first | exact .inl rfl | exact .inr rfl) :
    ES X (.Assign [.Name x pos'] e pos) (tAsg te (gName i)) (dOwn da i) := ⟨ps_set hN hi hx he.p hs hf, ss_own he.s i⟩
theorem es_dput {j : Nat} {px ppos : Pos} {x : Str} (i : Nat) (hr : Room j X.A) (hx : EE X (.Name x px) (tVar i) (dVar i)) (hk : EE X k ty dk) (hv : EE X v tv dv) (hs : swapsWith v (some (.Subscript (.Name x px) k ppos)) pos.line X.env = pure false := by rfl) :
    ES X (.Assign [.Subscript (.Name x px) k ppos] v pos) (sDPut (tVar i) ty tv) (dDPut i dk dv) := ⟨ps_dput (hu_of hr) hx.p hk.p hv.p hs, ss_dput i hk.s hv.s⟩
theorem ess_frz (i : Nat) (h : ESs X sts t b) : ESs X sts t (dFrz i b) := ⟨h.p, ss_frz h.s⟩
theorem es_retO {x : Str} {px : Pos} (i : Nat) (hx : EE X (.Name x px) (tVar i) (dVar i)) : ES X (.Return (some (.Name x px)) pos) (tRet (tVar i)) (dRetO i) := ⟨ps_ret hx.p, ss_retO i⟩
theorem es_parO {i j : Nat} {x y : Str} {px py pt pt2 : Pos} {kt k2 : Nat} (hc : X.calm = true) (hN : X.N.Nodup) (hi : X.N[i]? = some x) (hj : X.N[j]? = some y) (hij : i ≠ j)
    (hx : X.env.scope.names.lookup x = some .local) (hy : X.env.scope.names.lookup y = some .local) (h1 : EF X e1 t1 da) (h2 : EE X e2 t2 db)
    (hw : swappedStores [.Tuple [.Name x px, .Name y py] kt pt] (.Tuple [e1, e2] k2 pt2) X.env = pure (some [x, y]) := by rfl)
    (hs : swapsWithSole [.Tuple [.Name x px, .Name y py] kt pt] (.Tuple [e1, e2] k2 pt2) pos.line X.env = pure false := by rfl) (hs1 : starEach [e1, e2] X.env = (false, eval e1 X.env) :: starEach [e2] X.env := by rfl) (hs2 : starEach [e2] X.env = (false, eval e2 X.env) :: starEach [] X.env := by rfl) :
    ES X (.Assign [.Tuple [.Name x px, .Name y py] kt pt] (.Tuple [e1, e2] k2 pt2) pos) (tPar i j (tCons t1 (tCons t2 tNil))) (dParO i j da db) := ⟨ps_par hc hN hi hj hij hx hy (pa_cons h1.p (pa_cons h2.p pa_nil hs2) hs1) hw hs, ss_parO i j h1.s h2.s⟩
theorem es_par3 {i j l : Nat} {x y z : Str} {a b c : Expr} {tx : TA} {ax : Da} {px py pz pt pos pt2 : Pos} {kt k2 : Nat} (hc : X.calm = true) (hN : X.N.Nodup) (hi : X.N[i]? = some x) (hj : X.N[j]? = some y) (hl : X.N[l]? = some z) (hij : i ≠ j) (hil : i ≠ l) (hjl : j ≠ l)
    (hx : X.env.scope.names.lookup x = some .local) (hy : X.env.scope.names.lookup y = some .local) (hz : X.env.scope.names.lookup z = some .local) (ha : EA X [a, b, c] tx ax)
    (hw : swappedStores [.Tuple [.Name x px, .Name y py, .Name z pz] kt pt] (.Tuple [a, b, c] k2 pt2) X.env = pure (some [x, y, z]) := by rfl)
    (hs : swapsWithSole [.Tuple [.Name x px, .Name y py, .Name z pz] kt pt] (.Tuple [a, b, c] k2 pt2) pos.line X.env = pure false := by rfl) :
    ES X (.Assign [.Tuple [.Name x px, .Name y py, .Name z pz] kt pt] (.Tuple [a, b, c] k2 pt2) pos) (tPar3 i j l tx) (dPar3 i j l ax) := ⟨ps_par3 hc hN hi hj hl hij hil hjl hx hy hz ha.p hw hs, ss_par3 i j l ha.s⟩
theorem ee_dget2 {j : Nat} {o e f : Expr} {apos cpos : Pos} {td ty tx : TE} {dd dy dx : Dn} (hr : Room j X.A) (ho : EE X o td dd) (he : EE X e ty dy) (hf : EE X f tx dx) (m : M2 X o "get" apos e f cpos := by exact ⟨rfl, by rfl, by decide, rfl⟩) :
    EE X (.Call (.Attribute o "get" apos) [e, f] [] cpos) (tDGet2 td ty tx) (dGet2 dd dy dx) := ⟨pe_dget2 (hu_of hr) ho.p he.p hf.p m, sn_dget2 ho.s he.s hf.s⟩
end
end Dl
end
section
set_option Elab.async false
set_option linter.all false
set_option maxRecDepth 100000
set_option maxHeartbeats 4000000
namespace Dl
open PySem PySem.Spec PyProof.Rows L2 StX
/-! sum of a tuple of ints -/
section
variable {prog : Program} {w : World} {A : Around} {E : Value → Shared → Prop} {s : Shared}
theorem sum_tup_items {t : Addr} {xs : Array (Int × Tok)} {Q : Value → Shared → Prop} (hh : A.handled = none) (ht : s.heap.IsTuple t (intItems xs))
    (h : ∀ h' tk t', (∀ b o, s.heap.get? b = some o → h'.get? b = some o) → Q (.int (preSum (numAt xs) xs.size) t') { s with heap := h', toks := tk }) : wpAny (model prog w) A (call (.builtin "sum") [.ref t]) Q E s := by
  have hlt : t < s.heap.objs.size := by obtain ⟨_, e, _⟩ := ht; exact Heap.lt_size e
  have hne : t ≠ s.heap.objs.size := Nat.ne_of_lt hlt
  refine call_sum_walkG (wpAny_pyIter_tuple ht ?_)
  refine ⟨_, _, _, _, _, _, numAt xs, rfl, Walks.tuple (A := A.in1) hh _ t hne (intItems xs), ⟨⟨_, Heap.get?_push_size _ rfl, rfl, rfl⟩, ?_⟩, fun b hb => ?_, (fun _ _ => intItems_at), fun h' tk t' hk => ?_⟩
  · obtain ⟨o, e, r⟩ := ht
    exact ⟨o, Heap.get?_push_of_some _ e, r⟩
  · show b < (s.heap.push _).objs.size
    rw [Heap.size_push]
    rcases List.mem_cons.mp hb with rfl | hb
    · exact Nat.lt_succ_self _
    · rw [List.mem_singleton.mp hb]
      exact Nat.lt_succ_of_lt hlt
  · have := h h' tk t' fun b o e => hk b o (fun hm => by
      rw [List.mem_singleton.mp hm] at e
      exact Nat.lt_irrefl _ (Heap.lt_size e)) (Heap.get?_push_of_some _ e)
    simpa [intItems] using this
theorem sum_tup_raw {t : Addr} {its : List Value} {ns : List Int} {Q : Value → Shared → Prop} (hh : A.handled = none) (ht : s.heap.IsTuple t its.toArray) (hi : IntsAre its ns)
    (h : ∀ h' tk t', (∀ b o, s.heap.get? b = some o → h'.get? b = some o) → Q (.int ns.sum t') { s with heap := h', toks := tk }) : wpAny (model prog w) A (call (.builtin "sum") [.ref t]) Q E s := by
  obtain ⟨xs, e⟩ := hi.allInts.items
  have hn : numsOf (intItems xs).toList = ns := by rw [← e]; exact hi.numsOf
  rw [nums_intItems] at hn
  rw [e] at ht
  refine sum_tup_items hh ht fun h' tk t' hk => ?_
  have := h h' tk t' hk
  rw [preSum_eq, List.take_of_length_le (by simp), hn]; exact this
end
def rSumA (K : PySem.W.Frag) : List V → Hp → VK → Prop := fun vs H Q => ∃ (a : Addr) (ns : List Int), vs = [V.ref a] ∧ (SqL K H a (ns.map V.int) ∨ SqT K H a (ns.map V.int)) ∧ Q (.int ns.sum) H
theorem cr_sumA {X : Cx} (hc : X.calm = true) : CallR X (.builtin "sum") (rSumA X.K) := by
  intro pins s σ H vs us Q I r h
  obtain ⟨a, ns, rfl, hs | hs, q⟩ := h
  · exact cr_sum hc pins s σ H _ us Q I r ⟨a, ns, rfl, hs, q⟩
  · obtain ⟨its, rv, ht, _⟩ := I.tuple hs
    rw [Vals.ref1 r]
    exact sum_tup_raw (I.ok.hd hc) ht rv.ints fun h' tk t' hk => ⟨.int _, H, I.kept hk, ⟨_, rfl⟩, q⟩
def sumAD : List D → Option D
  | [d] => d.its.bind fun xs => (intsOf xs).map fun bs => .int bs.sum
  | _ => none
theorem sl_sumA {K : PySem.W.Frag} : SndL K (rSumA K) sumAD := fun c I H xs ds z s rx h Q q => by
  unfold sumAD at h
  split at h
  · rename_i d
    obtain ⟨ys, h1, h⟩ := bind_some_of h
    obtain ⟨bs, h2, rfl⟩ := map_some_of h
    cases rx with
    | cons a r =>
      cases r
      obtain ⟨p, vs, rfl, hp, rv⟩ := a.its h1
      have e := intsOf_rep rv h2
      subst e
      rcases hp with hp | hp
      · exact ⟨p, bs, rfl, .inr (s.sqT hp), q.val s (.int _)⟩
      · exact ⟨p, bs, rfl, .inl (s.sqL hp), q.val s (.int _)⟩
  · cases h
/-! a op b op c op d -/
def tChain3 (r r' r'' : R2) (ta tb tc td : TE) : TE := fun σ H Q => ta σ H fun x H1 => tb σ H1 fun y H2 => r x y H2 fun z H3 => ∃ k, z = .bl k ∧
  (if k = true then tc σ H3 fun w H4 => r' y w H4 fun z' H5 => ∃ k', z' = .bl k' ∧ (if k' = true then td σ H5 fun u H6 => r'' w u H6 Q else Q (.bl false) H5) else Q (.bl false) H3)
section
variable {X : Cx} {a b c d : Expr} {ta tb tc td : TE} {da db dc dd : Dn} {pos : Pos}
theorem pe_chain3 {op op' op'' : CmpOp} {r r' r'' : R2} (ho : OpR X (compareOp op) r) (ho' : OpR X (compareOp op') r') (ho'' : OpR X (compareOp op'') r'') (ha : PE X a ta) (hb : PE X b tb) (hc : PE X c tc) (hd : PE X d td)
    (hm : lastMarks [op, op', op''] [b, c, d] = false := by with_unfolding_all rfl) : PE X (.Compare a [op, op', op''] [b, c, d] pos) (tChain3 r r' r'' ta tb tc td) := by
  refine ⟨fun pins s σ H Q I h => ?_⟩
  refine Compare_chain (thn (ha.run pins s σ H _ I h) fun v s1 ⟨x, H1, I1, r1, q1⟩ => chain_link (thn (hb.run pins s1 σ H1 _ I1 q1) fun u s2 ⟨y, H2, I2, r2, q2⟩ =>
    thn (ho pins s2 σ H2 x y v u _ I2 r1 r2 q2) fun d s3 ⟨z, H3, I3, r3, k, e, q3⟩ => ?_)) hm
  subst e
  cases r3
  refine wpAny_truthy_bool ?_
  cases k with
  | false => exact ite_ff ⟨.bl false, H3, I3, rfl, q3⟩
  | true =>
    refine ite_tt (chain_link (thn (hc.run pins s3 σ H3 _ I3 q3) fun w' s4 ⟨z', H4, I4, r4, q4⟩ => thn (ho' pins s4 σ H4 y z' u w' _ I4 r2 r4 q4) fun d' s5 ⟨z2, H5, I5, r5, k2, e2, q5⟩ => ?_))
    subst e2
    cases r5
    refine wpAny_truthy_bool ?_
    cases k2 with
    | false => exact ite_ff ⟨.bl false, H5, I5, rfl, q5⟩
    | true => exact ite_tt (chain_last (thn (hd.run pins s5 σ H5 _ I5 q5) fun w2 s6 ⟨z3, H6, I6, r6, q6⟩ => ho'' pins s6 σ H6 z' z3 w' w2 Q I6 r4 r6 q6))
end
def dChain3 (f g h : D → D → Option D) (da db dc dd : Dn) : Dn := fun ρ s => (da ρ s).bind fun p => (db ρ p.2).bind fun q => (f p.1 q.1).bind fun z => match z with
  | .bl true => (dc ρ q.2).bind fun r => (g q.1 r.1).bind fun z => (match z with
    | .bl true => (dd ρ r.2).bind fun t => (h r.1 t.1).map fun z => (z, t.2)
    | .bl false => some (.bl false, r.2)
    | _ => none)
  | .bl false => some (.bl false, q.2)
  | _ => none
theorem sn_chain3 {K : PySem.W.Frag} {ta tb tc td : TE} {da db dc dd : Dn} {r r' r'' : R2} {f g f3 : D → D → Option D} (h1 : SndE K ta da) (h2 : SndE K tb db) (h3 : SndE K tc dc) (h4 : SndE K td dd) (hr : Snd2 K r f) (hr' : Snd2 K r' g) (hr'' : Snd2 K r'' f3) :
    SndE K (tChain3 r r' r'' ta tb tc td) (dChain3 f g f3 da db dc dd) := fun c I H σ ρ s d s' e h Q q => by
  obtain ⟨⟨x, s1⟩, ha, h⟩ := bind_some_of h
  obtain ⟨⟨y, s2⟩, hb, h⟩ := bind_some_of h
  obtain ⟨z, hz, h⟩ := bind_some_of h
  refine h1 _ _ _ _ _ _ _ _ e ha _ fun v I1 H1 g1 w1 r1 => ?_
  have e1 := e.grow g1 w1
  refine h2 _ _ _ _ _ _ _ _ e1 hb _ fun u I2 H2 g2 w2 r2 => ?_
  have g12 := g1.tr w1 g2
  have e2 := e.grow g12 w2
  refine hr _ _ _ _ _ _ _ _ g2.s2 (r1.mono g2.s1) r2 hz _ fun b I3 H3 g3 rb => ?_
  have w3 := w2.gr g3
  have g13 := g12.tr w2 (g3.up (c := c))
  have e3 := e.grow g13 w3
  split at h
  · cases rb
    refine ⟨true, rfl, ?_⟩
    rw [if_pos rfl]
    obtain ⟨⟨w, s3⟩, hc, h⟩ := bind_some_of h
    obtain ⟨z2, hz2, h⟩ := bind_some_of h
    refine h3 _ _ _ _ _ _ _ _ e3 hc _ fun t I4 H4 g4 w4 r4 => ?_
    have g14 := g13.tr w3 g4
    refine hr' _ _ _ _ _ _ _ _ g4.s2 ((r2.mono g3.s1).mono g4.s1) r4 hz2 _ fun b2 I5 H5 g5 rb2 => ?_
    have w5 := w4.gr g5
    have g15 := g14.tr w4 (g5.up (c := c))
    have e5 := e.grow g15 w5
    split at h
    · cases rb2
      refine ⟨true, rfl, ?_⟩
      rw [if_pos rfl]
      obtain ⟨⟨k, s4⟩, hd, h⟩ := bind_some_of h
      obtain ⟨z3, hz3, h⟩ := map_some_of h
      cases h
      refine h4 _ _ _ _ _ _ _ _ e5 hd _ fun t2 I6 H6 g6 w6 r6 => ?_
      have g16 := g15.tr w5 g6
      exact hr'' _ _ _ _ _ _ _ _ g6.s2 ((r4.mono g5.s1).mono g6.s1) r6 hz3 _ fun v' I' H' g' r' => q v' I' H' (g16.tr w6 (g'.up (c := c))) (w6.gr g') r'
    · cases rb2
      cases h
      refine ⟨false, rfl, ?_⟩
      rw [if_neg Bool.false_ne_true]
      exact q _ _ _ g15 w5 (.bl _)
    · cases h
  · cases rb
    cases h
    refine ⟨false, rfl, ?_⟩
    rw [if_neg Bool.false_ne_true]
    exact q _ _ _ g13 w3 (.bl _)
  · cases h
theorem ee_chain3 {X : Cx} {a b c d : Expr} {ta tb tc td : TE} {da db dc dd : Dn} {pos : Pos} {op op' op'' : CmpOp} {r r' r'' : R2} {f g f3 : D → D → Option D} (h : CM X op r f) (h' : CM X op' r' g) (h'' : CM X op'' r'' f3) (ha : EE X a ta da) (hb : EE X b tb db) (hc : EE X c tc dc) (hd : EE X d td dd) (hm : lastMarks [op, op', op''] [b, c, d] = false := by rfl) :
    EE X (.Compare a [op, op', op''] [b, c, d] pos) (tChain3 r r' r'' ta tb tc td) (dChain3 f g f3 da db dc dd) := ⟨pe_chain3 h.o h'.o h''.o ha.p hb.p hc.p hd.p hm, sn_chain3 ha.s hb.s hc.s hd.s h.s h'.s h''.s⟩
end Dl
end
section
set_option Elab.async false
set_option linter.all false
set_option maxRecDepth 100000
set_option maxHeartbeats 4000000
namespace Dl
open PySem PySem.Spec PyProof.Rows L2 StX
/-! a written dict of the module: text keys, tuples of texts -/
def KTab (K : PySem.W.Frag) (w : World) (p : Addr) (l : List (Str × List Str)) : Prop := ∀ z vs, l.lookup z = some vs → ∃ a, KDct K w p z (.ref a) ∧ ∀ H, SqT K H a (vs.map V.str)
def kgetD (l : List (Str × List Str)) : D → Option D
  | .str z => (l.lookup z).map fun vs => .ktp (vs.map D.str)
  | _ => none
theorem sn_kget {K : PySem.W.Frag} {w : World} {p : Addr} {l : List (Str × List Str)} {tb : TE} {db : Dn} (hk : KTab K w p l) (h1 : SndE K tb db) : SndE K (tOp (rIxD K w) (tC (.ref p)) tb) (dUn (kgetD l) db) := fun c I H σ ρ s d s' e h Q q => by
  obtain ⟨⟨x, s1⟩, h2, h⟩ := bind_some_of h
  obtain ⟨z, h3, h⟩ := map_some_of h
  cases h
  have h3 : kgetD l x = some _ := h3
  unfold kgetD at h3
  split at h3
  · obtain ⟨vs, h4, rfl⟩ := map_some_of h3
    refine h1 _ _ _ _ _ _ _ _ e h2 _ fun v I1 H1 g1 w1 r1 => ?_
    cases r1 with
    | str =>
      obtain ⟨a, ha, hs⟩ := hk _ _ h4
      exact ⟨p, _, _, rfl, rfl, ha, q _ _ _ g1 w1 (.ktp (hs _) (RepL.strs _))⟩
  · cases h3
section
variable {X : Cx} {b : Expr} {tb : TE} {db : Dn} {pos px : Pos}
theorem ee_kget {x : Str} {p : Addr} {l : List (Str × List Str)} (hg : Gl X x) (hm : X.mg x = some (.ref p)) (hk : KTab X.K X.w p l) (hb : EE X b tb db) (hs : PlainIx b := by exact fun _ _ => rfl) (hd : (x == ("__debug__" : Str)) = false := by decide) :
    EE X (.Subscript (.Name x px) b pos) (tOp (rIxD X.K X.w) (tC (.ref p)) tb) (dUn (kgetD l) db) := ⟨pe_ix ix_kdict (pe_glob hg hm rfl hd) hb.p hs, sn_kget hk hb.s⟩
end
/-! sorted(a list of ints) -/
def insI (x : Int) : List Int → List Int
  | [] => [x]
  | y :: ys => if x ≤ y then x :: y :: ys else y :: insI x ys
def srtI : List Int → List Int
  | [] => []
  | x :: xs => insI x (srtI xs)
theorem insI_perm (x : Int) : ∀ ys : List Int, (insI x ys).Perm (x :: ys)
  | [] => .refl _
  | y :: ys => by
    unfold insI
    split
    · exact .refl _
    · exact ((insI_perm x ys).cons y).trans (.swap x y ys)
theorem srtI_perm : ∀ xs : List Int, (srtI xs).Perm xs
  | [] => .refl _
  | x :: xs => (insI_perm x _).trans ((srtI_perm xs).cons x)
theorem insI_sorted (x : Int) : ∀ ys : List Int, ys.Pairwise (· ≤ ·) → (insI x ys).Pairwise (· ≤ ·)
  | [], _ => by simp [insI]
  | y :: ys, h => by
    have h1 := List.pairwise_cons.mp h
    unfold insI
    split
    · rename_i hx
      refine List.pairwise_cons.mpr ⟨fun z hz => ?_, h⟩
      rcases List.mem_cons.mp hz with rfl | hz
      · exact hx
      · exact Int.le_trans hx (h1.1 z hz)
    · rename_i hx
      refine List.pairwise_cons.mpr ⟨fun z hz => ?_, insI_sorted x ys h1.2⟩
      rcases List.mem_cons.mp ((insI_perm x ys).mem_iff.mp hz) with rfl | hz
      · omega
      · exact h1.1 z hz
theorem srtI_sorted : ∀ xs : List Int, (srtI xs).Pairwise (· ≤ ·)
  | [] => .nil
  | x :: xs => insI_sorted x _ (srtI_sorted xs)
theorem srt_uniq : ∀ {xs ys : List Int}, xs.Perm ys → xs.Pairwise (· ≤ ·) → ys.Pairwise (· ≤ ·) → xs = ys
  | [], ys, h, _, _ => (List.nil_perm.mp h).symm
  | x :: xs, [], h, _, _ => absurd (List.perm_nil.mp h) (by simp)
  | x :: xs, y :: ys, h, h1, h2 => by
    have a1 := List.pairwise_cons.mp h1
    have a2 := List.pairwise_cons.mp h2
    have e : x = y := by
      have m1 : x ∈ y :: ys := h.mem_iff.mp List.mem_cons_self
      have m2 : y ∈ x :: xs := h.mem_iff.mpr List.mem_cons_self
      rcases List.mem_cons.mp m1 with m1 | m1
      · exact m1
      · rcases List.mem_cons.mp m2 with m2 | m2
        · exact m2.symm
        · have b1 := a1.1 y m2
          have b2 := a2.1 x m1
          omega
    subst e
    rw [srt_uniq (List.Perm.cons_inv h) a1.2 a2.2]
def sortedD : List D → Option D
  | [.lst xs] => (intsOf xs).map fun ns => .lst ((srtI ns).map D.int)
  | _ => none
theorem RepL.intsR {K : PySem.W.Frag} {c : Option Addr} {I : Hp} : ∀ ns : List Int, RepL K c I (ns.map V.int) (ns.map D.int)
  | [] => .nil
  | n :: ns => .cons (.int n) (RepL.intsR ns)
theorem sl_sorted {K : PySem.W.Frag} : SndL K (rSortedI K) sortedD := fun c I H xs ds z s rx h Q q => by
  unfold sortedD at h
  split at h
  · obtain ⟨ns, h1, rfl⟩ := map_some_of h
    cases rx with
    | cons a r =>
      cases r
      cases a with
      | @lst p vs _ hI rv =>
        have e := intsOf_rep rv h1
        subst e
        refine ⟨p, ns, rfl, .of (s.lst hI), fun ns' b hp hs hb => ?_⟩
        have e2 : ns' = srtI ns := srt_uniq (hp.trans (srtI_perm ns).symm) hs (srtI_sorted ns)
        subst e2
        exact q.lst s hb (.intsR _)
  · cases h
/-! d.get(k) of a text dict -/
def dget1D : D → D → Option D
  | .dS es, .str k => some ((lookD es k).getD .non)
  | _, _ => none
theorem sn_dget1 {K : PySem.W.Frag} {td ty : TE} {dd dy : Dn} (h0 : SndE K td dd) (h1 : SndE K ty dy) : SndE K (tDGet1 td ty) (dOp dget1D dd dy) := fun c I H σ ρ s d s' e h Q q => by
  obtain ⟨⟨x, s1⟩, ha, h⟩ := bind_some_of h
  obtain ⟨⟨y, s2⟩, hb, h⟩ := bind_some_of h
  obtain ⟨z, h4, h⟩ := map_some_of h
  cases h
  unfold dget1D at h4
  split at h4
  · rename_i es k hx hy
    have hx : x = .dS es := hx
    have hy : y = .str k := hy
    subst hx hy
    refine h0 _ _ _ _ _ _ _ _ e ha _ fun v I1 H1 g1 w1 r1 => ?_
    cases r1 with
    | dS hI rs =>
      refine ⟨_, rfl, .inl ⟨_, g1.s2.dK hI⟩, ?_⟩
      refine h1 _ _ _ _ _ _ _ _ (e.grow g1 w1) hb _ fun u I2 H2 g2 w2 r2 => ?_
      have g12 := g1.tr w1 g2
      cases r2
      have rs2 := rs.mono g2.s1
      refine ⟨_, .inl ⟨_, Sum.inr k, g2.s2.dK (g2.s1 _ _ hI), rfl, rfl⟩, ?_⟩
      cases h4
      cases hl : lookD es k with
      | some d1 =>
        obtain ⟨v1, h5, h6⟩ := rs2.look hl
        rw [h5]
        exact q _ I2 H2 g12 w2 (by rw [hl]; exact h6)
      | none =>
        rw [rs2.none hl]
        exact q _ I2 H2 g12 w2 (by rw [hl]; exact .non)
  · cases h4
theorem ee_dget1 {X : Cx} {j : Nat} {o e : Expr} {apos cpos : Pos} {td ty : TE} {dd dy : Dn} (hr : Room j X.A) (ho : EE X o td dd) (he : EE X e ty dy) (m : M1 X o "get" apos e cpos := by exact ⟨rfl, by rfl, by decide, rfl⟩) :
    EE X (.Call (.Attribute o "get" apos) [e] [] cpos) (tDGet1 td ty) (dOp dget1D dd dy) := ⟨pe_dget1 (hu_of hr) ho.p he.p m, sn_dget1 ho.s he.s⟩
end Dl
end
section
set_option Elab.async false
set_option linter.all false
set_option maxRecDepth 100000
set_option maxHeartbeats 4000000
namespace Dl
open PySem PySem.Spec PyProof.Rows L2
/-! what the head tells of nested constants -/
def tupAt (K : PySem.W.Frag) (a : Addr) (vs : List V) : Bool := match K.lookup a with
  | some ⟨.type c, _, .seq its _, _⟩ => decide (c = "tuple") && (decide (its.size ≤ sizeLine) && He.relAll vs its.toList)
  | _ => false
theorem tupAt_ok {K : PySem.W.Frag} {a : Addr} {vs : List V} (h : tupAt K a vs = true) (H : Hp) : SqT K H a vs := by
  unfold tupAt at h
  cases q : K.lookup a with
  | none => rw [q] at h; cases h
  | some o =>
    obtain ⟨oc, od, dt, osl⟩ := o
    rw [q] at h
    cases oc with
    | type c =>
      cases dt with
      | seq its n =>
        obtain ⟨h1, h2⟩ := He.ba (show (decide (c = "tuple") && (decide (its.size ≤ sizeLine) && He.relAll vs its.toList)) = true from h)
        obtain ⟨h3, h4⟩ := He.ba h2
        exact .inr ⟨_, its, n, q, congrArg Value.type (of_decide_eq_true h1), rfl, of_decide_eq_true h3, He.relAll_ok h4⟩
      | _ => cases h
    | _ => cases dt <;> cases h
def keyAt (K : PySem.W.Frag) (p : Addr) (z : Str) : Addr := match PySem.W.nsIn K p z with
  | some (some (.ref b)) => b
  | _ => 0
def ktabB (K : PySem.W.Frag) (p : Addr) (l : List (Str × List Str)) : Bool := l.all fun q => He.eqO (PySem.W.nsIn K p q.1) (some (some (.ref (keyAt K p q.1)))) && tupAt K (keyAt K p q.1) (q.2.map V.str)
theorem look_in {z : Str} {vs : List Str} : ∀ {l : List (Str × List Str)}, l.lookup z = some vs → (z, vs) ∈ l
  | [], h => by cases h
  | (k, u) :: r, h => by
    have h2 : (match z == k with | true => some u | false => r.lookup z) = some vs := h
    cases q : z == k with
    | true =>
      rw [q] at h2
      have e := eq_of_beq q
      cases h2
      rw [e]; exact List.mem_cons_self
    | false =>
      rw [q] at h2
      exact List.mem_cons_of_mem _ (look_in h2)
theorem ktab_ok {K : PySem.W.Frag} {w : World} {p : Addr} {l : List (Str × List Str)} (h : ktabB K p l = true) (kd : ∃ es n, L2.KDict K w p es n) : KTab K w p l := fun z vs hz => by
  obtain ⟨es, n, ⟨h1, h2, _⟩⟩ := kd
  obtain ⟨h3, h4⟩ := He.ba (List.all_eq_true.mp h _ (look_in hz))
  exact ⟨_, ⟨es, n, _, h1, h2, He.eqO_ok h3, rfl⟩, fun H => tupAt_ok h4 H⟩
def refAt (K : PySem.W.Frag) (a : Addr) (i : Nat) : Addr := match K.lookup a with
  | some ⟨_, _, .seq its _, _⟩ => (match its[i]? with
    | some (.ref b) => b
    | _ => 0)
  | _ => 0
def tabB (K : PySem.W.Frag) (a : Addr) (l : List (List Str)) : Bool := tupAt K a ((List.range l.length).map fun i => V.ref (refAt K a i)) && (List.range l.length).all fun i => tupAt K (refAt K a i) ((l.getD i []).map V.str)
theorem tab_ok {K : PySem.W.Frag} {a : Addr} {l : List (List Str)} (h : tabB K a l = true) (c : Option Addr) (I : Hp) : Rep K c I (.ref a) (.ktp (l.map fun y => .ktp (y.map D.str))) := by
  obtain ⟨h1, h2⟩ := He.ba h
  refine .ktp (tupAt_ok h1 I) ?_
  have key : ∀ (m : List (List Str)) (k : Nat), (∀ i, i < m.length → tupAt K (refAt K a (k + i)) ((m.getD i []).map V.str) = true) → RepL K c I ((List.range m.length).map fun i => V.ref (refAt K a (k + i))) (m.map fun y => .ktp (y.map D.str)) := fun m => by
    induction m with
    | nil => exact fun _ _ => .nil
    | cons y m ih =>
      intro k hk
      have e : (List.range (y :: m).length).map (fun i => V.ref (refAt K a (k + i))) = V.ref (refAt K a k) :: (List.range m.length).map fun i => V.ref (refAt K a (k + 1 + i)) := by
        rw [List.length_cons, List.range_succ_eq_map, List.map_cons, List.map_map]
        refine congrArg (V.ref (refAt K a k) :: ·) (List.map_congr_left fun i _ => ?_)
        show V.ref (refAt K a (k + (i + 1))) = _
        rw [show k + (i + 1) = k + 1 + i by omega]
      rw [e]
      exact .cons (.ktp (tupAt_ok (hk 0 (by simp)) I) (RepL.strs _)) (ih (k + 1) fun i hi => by
        have := hk (i + 1) (by rw [List.length_cons]; omega)
        rw [show k + (i + 1) = k + 1 + i by omega] at this
        exact this)
  have := key l 0 fun i hi => by
    rw [Nat.zero_add]
    exact List.all_eq_true.mp h2 i (List.mem_range.mpr hi)
  simpa only [Nat.zero_add] using this
end Dl
end
section
set_option Elab.async false
set_option linter.all false
set_option maxRecDepth 100000
set_option maxHeartbeats 4000000
namespace Dl
open PySem PySem.Spec PyProof.Rows L2 StX
theorem set_same {α : Type} {σ : List α} {i : Nat} {x : α} (h : σ[i]? = some x) : σ.set i x = σ := by
  apply List.ext_getElem?
  intro j
  by_cases z : i = j
  · subst z
    rw [List.getElem?_set]
    have hl := (List.getElem?_eq_some_iff.mp h).1
    simp only [if_true, hl, h]
  · rw [List.getElem?_set_ne z]
/-- an owned text dict gets a value -/
theorem EnvS.put {K : PySem.W.Frag} {c : Option Addr} {I0 H0 I H : Hp} {σ : L2.St} {ρ : List Sl} {s : Tau} {i : Nat} {p : Addr} {es : List (Str × D)} {kvs : List (Key × V)} {k : Str} {v : V} {d : D} (e : EnvS K c I0 H0 I H σ ρ s) (hs : ρ[i]? = some (.ow (.dS es))) (hp : σ[i]? = some (some (.ref p)))
    (hk : H p = some (.dK kvs)) (rv : Rep K c I v d) : EnvS K c I0 H0 I (upd H p (.dK (putK kvs (.inr k) v))) σ (ρ.set i (.ow (.dS (putD es k d)))) s := by
  obtain ⟨p2, hp2, o2⟩ := e.env.ow hs
  rw [hp] at hp2
  cases hp2
  cases o2 with
  | @dS kv2 _ h1 h2 h3 h4 =>
    rw [hk] at h1
    cases h1
    have rr := h2.putL (k := k) rv
    have h0 := e.fr i p _ hp hs
    have eq := set_same hp
    have sl2 : ∀ {σ' : L2.St} {ρ' : List Sl}, (∀ (j : Nat) (d : D), σ'[j]? = some (some (V.ref p)) → ρ'[j]? = some (.ow d) → False) → SlL K c I H σ' ρ' → SlL K c I (upd H p (.dK (putK kvs (.inr k) v))) σ' ρ' := fun {σ' ρ'} n sl => by
      induction sl with
      | nil => exact .nil
      | @cons v x σ2 ρ2 a r ih =>
        refine .cons ?_ (ih fun j d z1 z2 => n (j + 1) d (by simpa using z1) (by simpa using z2))
        cases a with
        | un => exact .un _
        | im a => exact .im a
        | @ow p2 d2 o2 =>
          have np : p2 ≠ p := fun z => n 0 d2 (by rw [z]; rfl) rfl
          refine .ow ?_
          cases o2 with
          | lst h1 h2 h3 h4 => exact .lst (by rw [upd_ne np]; exact h1) h2 h3 h4
          | dS h1 h2 h3 h4 => exact .dS (by rw [upd_ne np]; exact h1) h2 h3 h4
    have slot := SlL.set (v := some (V.ref p)) (x := .un) (.un _) i e.env.sl
    rw [eq] at slot
    have s2' := sl2 (σ' := σ) (ρ' := ρ.set i .un) (fun j d' z1 z2 => by
      by_cases z : i = j
      · subst z
        rw [List.getElem?_set] at z2
        simp only [if_true] at z2
        split at z2 <;> cases z2
      · rw [List.getElem?_set_ne z] at z2
        exact e.env.uq i j p _ d' z hp z1 hs z2) slot
    have s3 := SlL.set (v := some (V.ref p)) (x := .ow (.dS (putD es k d))) (.ow (.dS upd_same rr h3 h4)) i s2'
    rw [eq, List.set_set] at s3
    refine ⟨⟨fun a u z => ?_, fun rr hr => ?_, s3, ?_⟩, e.s0, fun a u n z => ?_, e.nw, fun j q' d' h1' h2' => ?_, e.nc⟩
    · rw [upd_ne (ne_of_none z h3)]; exact e.env.sub a u z
    · obtain ⟨z1, sc, z2, z3⟩ := e.env.w rr hr
      have n : rr ≠ p := fun z => h4 (by rw [hr, z])
      exact ⟨z1, sc, by rw [upd_ne n]; exact z2, z3⟩
    · have u := Uq.setO (i := i) (p := p) (d := .dS (putD es k d)) e.env (fun j d' nj z1 z2 => e.env.uq i j p _ d' (Ne.symm nj) hp z1 hs z2)
      rw [eq] at u
      exact u
    · have n2 : a ≠ p := fun z2 => by rw [z2, h0] at z; cases z
      rw [upd_ne n2]; exact e.kp a u n z
    · by_cases z : i = j
      · subst z
        rw [hp] at h1'; cases h1'
        exact h0
      · rw [List.getElem?_set_ne z] at h2'
        exact e.fr j q' d' h1' h2'
/-- d[k], d[l] = x, y -/
def dDPut2 (i : Nat) (k1 k2 : Str) (da : Dn) : Ds := fun ρ s => (da ρ s).bind fun v => v.1.asT.bind fun xs => match xs, ρ[i]? with
  | [x, y], some (.ow (.dS es)) => if es.length + 1 < 1000000 then some (.nx (ρ.set i (.ow (.dS (putD (putD es k1 x) k2 y)))), v.2) else none
  | _, _ => none
theorem putD_len (es : List (Str × D)) (k : Str) (v : D) : (putD es k v).length ≤ es.length + 1 := by
  unfold putD
  split
  · rw [List.length_map]; omega
  · rw [List.length_append]; exact Nat.le_refl _
theorem ss_dput2 {K : PySem.W.Frag} {te : TE} {da : Dn} (i : Nat) (k1 k2 : Str) (h1 : SndE K te da) :
    SndS K (tAsg te (gTup K 2 (gCons (gSub (tVar i) (tC (.str k1)) rSetD) (gCons (gSub (tVar i) (tC (.str k2)) rSetD) gNil)))) (dDPut2 i k1 k2 da) := fun c I0 H0 I H σ ρ s o s' e h En q => by
  obtain ⟨⟨v, s1⟩, ha, h⟩ := bind_some_of h
  obtain ⟨xs, hx, h⟩ := bind_some_of h
  split at h
  · rename_i x y es hs
    split at h
    · rename_i hl
      cases h
      refine h1 _ _ _ _ _ _ _ _ e.env ha _ fun u I1 H1 g1 w1 r1 => ?_
      have e1 := e.grow g1 w1
      obtain ⟨a, vs, rfl, hq, rv⟩ := r1.asT hx
      cases rv with
      | @cons v1 _ vs1 _ rx rv => cases rv with
        | @cons v2 _ vs2 _ ry rv =>
          cases rv
          obtain ⟨p, hp, o1⟩ := e1.env.ow hs
          cases o1 with
          | @dS kvs _ z1 z2 z3 z4 =>
            have e2 := e1.put (k := k1) hs hp z1 rx
            have hil : i < ρ.length := (List.getElem?_eq_some_iff.mp hs).1
            have hs2 : (ρ.set i (.ow (.dS (putD es k1 x))))[i]? = some (.ow (.dS (putD es k1 x))) := by
              rw [List.getElem?_set]
              simp only [if_true, hil]
            have e3 := e2.put (k := k2) hs2 hp upd_same ry
            rw [List.set_set] at e3
            have l1 : kvs.length < sizeLine := by
              rw [z2.length]
              exact Nat.lt_of_lt_of_le (show es.length < 1000000 by omega) (by decide)
            have l2 : (putK kvs (.inr k1) v1).length < sizeLine := by
              rw [(z2.putL (k := k1) rx).length]
              have := putD_len es k1 x
              exact Nat.lt_of_lt_of_le (show (putD es k1 x).length < 1000000 by omega) (by decide)
            refine ⟨a, _, rfl, g1.s2.sqT hq, rfl, _, _, rfl, .ref p, hp, p, _, rfl, .inl ⟨kvs, .inr k1, z1, rfl, l1, rfl⟩, _, _, rfl, .ref p, hp, p, _, rfl, .inl ⟨_, .inr k2, upd_same, rfl, l2, rfl⟩, rfl, q _ _ _ e3⟩
    · cases h
  · cases h
theorem es_dput2 {X : Cx} {j : Nat} {x : Str} {px1 px2 p1 p2 q1 q2 pt pos : Pos} {k1 k2 : Str} {n1 n2 : Nat} {kt : Nat} {e : Expr} {te : TE} {da : Dn} (i : Nat) (hr : Room j X.A) (hc : X.calm = true) (hx1 : EE X (.Name x px1) (tVar i) (dVar i)) (hx2 : EE X (.Name x px2) (tVar i) (dVar i)) (he : EE X e te da)
    (hs : swapsWithSole [.Tuple [.Subscript (.Name x px1) (.Constant (.str k1) n1 p1) q1, .Subscript (.Name x px2) (.Constant (.str k2) n2 p2) q2] kt pt] e pos.line X.env = pure false := by rfl)
    (hw : swappedStores [.Tuple [.Subscript (.Name x px1) (.Constant (.str k1) n1 p1) q1, .Subscript (.Name x px2) (.Constant (.str k2) n2 p2) q2] kt pt] e X.env = pure none := by rfl) :
    ES X (.Assign [.Tuple [.Subscript (.Name x px1) (.Constant (.str k1) n1 p1) q1, .Subscript (.Name x px2) (.Constant (.str k2) n2 p2) q2] kt pt] e pos)
      (tAsg te (gTup X.K 2 (gCons (gSub (tVar i) (tC (.str k1)) rSetD) (gCons (gSub (tVar i) (tC (.str k2)) rSetD) gNil)))) (dDPut2 i k1 k2 da) :=
  ⟨ps_asg he.p (pg_tup hc (pgs_cons (pg_sub hx1.p pe_str (set_dict (hu_of hr))) (pgs_cons (pg_sub hx2.p pe_str (set_dict (hu_of hr))) pgs_nil (by rfl)) (by rfl))) hs hw (by rfl), ss_dput2 i k1 k2 he.s⟩
end Dl
end
section
set_option Elab.async false
set_option linter.all false
set_option maxRecDepth 100000
set_option maxHeartbeats 4000000
namespace Dl
open PySem L2 PyProof.Rows
/-! plain facts of the data's meanings -/
theorem shaped_str {x : Str} (h : PyData.strOk x = true) : SeqAt.shaped (.str x) = true := by
  unfold SeqAt.shaped
  rw [Bool.and_eq_true]
  exact ⟨h, rfl⟩
theorem eqB_str {a b : Str} (ha : PyData.strOk a = true) (hb : PyData.strOk b = true) : eqB (.str a) (.str b) = some (a == b) := by
  unfold eqB
  show (if (SeqAt.shaped (.str a) && SeqAt.shaped (.str b)) = true then some (PyData.eqv (.str a) (.str b)) else none) = _
  rw [if_pos (by rw [shaped_str ha, shaped_str hb]; rfl)]
  rfl
theorem eqD_str {a b : Str} (ha : PyData.strOk a = true) (hb : PyData.strOk b = true) : eqD (.str a) (.str b) = some (.bl (a == b)) := by
  unfold eqD; rw [eqB_str ha hb]; rfl
theorem neD_str {a b : Str} (ha : PyData.strOk a = true) (hb : PyData.strOk b = true) : neD (.str a) (.str b) = some (.bl (!(a == b))) := by
  unfold neD; rw [eqB_str ha hb]; rfl
theorem eqD_int (a b : Int) : eqD (.int a) (.int b) = some (.bl (a == b)) := rfl
theorem neD_int (a b : Int) : neD (.int a) (.int b) = some (.bl (!(a == b))) := rfl
theorem eqD_bl (a b : Bool) : eqD (.bl a) (.bl b) = some (.bl (a == b)) := rfl
theorem neD_bl (a b : Bool) : neD (.bl a) (.bl b) = some (.bl (!(a == b))) := rfl
/-- equal data -/
theorem eqB_of {d e : D} {x y : PyData} (hx : d.conv = some x) (hy : e.conv = some y) (sx : SeqAt.shaped x = true) (sy : SeqAt.shaped y = true) : eqB d e = some (PyData.eqv x y) := by
  unfold eqB
  rw [hx, hy]
  show (if (SeqAt.shaped x && SeqAt.shaped y) = true then some (PyData.eqv x y) else none) = _
  rw [if_pos (by rw [sx, sy]; rfl)]
theorem eqD_refl {d e : D} {x : PyData} (hx : d.conv = some x) (hy : e.conv = some x) (sx : SeqAt.shaped x = true) : eqD d e = some (.bl true) := by
  unfold eqD
  rw [eqB_of hx hy sx sx, SeqAt.eqv_refl x (SeqAt.canLay_of_shaped sx)]; rfl
/-! control -/
section
variable {t : Dt} {a b c : Ds} {ρ : List Sl} {s s1 s2 : Tau} {d : D} {o : Bool} {r : Option (Rs × Tau)} {f : Fn} {dn : Ds} {m : Nat} {ds : List D}
theorem seq_ifT (h : t ρ s = some (true, s1)) (h2 : a ρ s1 = some (.rt d o, s2)) : dSeq (dIfS t a b) c ρ s = some (.rt d o, s2) := by
  unfold dSeq dIfS
  rw [h]
  show ((if true = true then a ρ s1 else b ρ s1).bind _) = _
  rw [if_pos rfl, h2]; rfl
theorem seq_ifF (h : t ρ s = some (false, s1)) (h2 : c ρ s1 = r) : dSeq (dIfS t a dNext) c ρ s = r := by
  unfold dSeq dIfS
  rw [h]; exact h2
theorem sT (h : t ρ s = some (true, s)) (h2 : a ρ s = some (.rt d o, s2)) : dSeq (dIfS t a b) c ρ s = some (.rt d o, s2) := seq_ifT h h2
theorem sF (h : t ρ s = some (false, s)) (h2 : c ρ s = r) : dSeq (dIfS t a dNext) c ρ s = r := seq_ifF h h2
theorem sN {ρ1 : List Sl} (h : a ρ s = some (.nx ρ1, s)) (h2 : b ρ1 s = r) : dSeq a b ρ s = r := by
  unfold dSeq
  rw [h]; exact h2
theorem sA {ρ1 : List Sl} (h : t ρ s = some (true, s)) (h2 : a ρ s = some (.nx ρ1, s)) (h3 : c ρ1 s = r) : dSeq (dIfS t a b) c ρ s = r := by
  unfold dSeq dIfS
  rw [h]
  show ((if true = true then a ρ s else b ρ s).bind _) = _
  rw [if_pos rfl, h2]; exact h3
theorem seq_nx {ρ1 : List Sl} (h : a ρ s = some (.nx ρ1, s1)) (h2 : b ρ1 s1 = r) : dSeq a b ρ s = r := by
  unfold dSeq
  rw [h]; exact h2
theorem seq_rt (h : a ρ s = some (.rt d o, s1)) : dSeq a b ρ s = some (.rt d o, s1) := by
  unfold dSeq
  rw [h]; rfl
theorem ifT (h : t ρ s = some (true, s1)) (h2 : a ρ s1 = r) : dIfS t a b ρ s = r := by
  unfold dIfS
  rw [h]; exact h2
theorem ifF (h : t ρ s = some (false, s1)) (h2 : b ρ s1 = r) : dIfS t a b ρ s = r := by
  unfold dIfS
  rw [h]; exact h2
theorem ret_of {x : Dn} (h : x ρ s = some (d, s1)) : dRet x ρ s = some (.rt d false, s1) := by
  unfold dRet
  rw [h]; rfl
theorem fn_rt {m : Nat} {ds : List D} (h : dn (ds.map Sl.im ++ List.replicate (m - ds.length) .un) s = some (.rt d o, s1)) : fnD m dn ds s = some ((d, o), s1) := by
  unfold fnD
  rw [h]; rfl
theorem fn_nx {m : Nat} {ds : List D} {ρ1 : List Sl} (h : dn (ds.map Sl.im ++ List.replicate (m - ds.length) .un) s = some (.nx ρ1, s1)) : fnD m dn ds s = some ((.non, false), s1) := by
  unfold fnD
  rw [h]; rfl
theorem call_of {ax : Da} {xs : List D} (h : ax ρ s = some (xs, s1)) (h2 : f xs s1 = some ((d, o), s2)) : dCall f ax ρ s = some (d, s2) := by
  unfold dCall
  rw [h]
  show Option.map _ (f xs s1) = _
  rw [h2]; rfl
end
/-! values -/
section
variable {ρ : List Sl} {s s1 s2 : Tau} {x y z : D} {da db : Dn} {ax ar : Da} {b : Bool} {bt : Dt}
theorem op_of {f : D → D → Option D} (h1 : da ρ s = some (x, s1)) (h2 : db ρ s1 = some (y, s2)) (h3 : f x y = some z) : dOp f da db ρ s = some (z, s2) := by
  unfold dOp
  rw [h1]
  show Option.bind (db ρ s1) _ = _
  rw [h2]
  show Option.map _ (f x y) = _
  rw [h3]; rfl
theorem un_of {f : D → Option D} (h1 : da ρ s = some (x, s1)) (h3 : f x = some z) : dUn f da ρ s = some (z, s1) := by
  unfold dUn
  rw [h1]
  show Option.map _ (f x) = _
  rw [h3]; rfl
theorem cons_of {xs : List D} (h1 : da ρ s = some (x, s1)) (h2 : ar ρ s1 = some (xs, s2)) : dCons da ar ρ s = some (x :: xs, s2) := by
  unfold dCons
  rw [h1]
  show Option.map _ (ar ρ s1) = _
  rw [h2]; rfl
theorem one_of (h1 : da ρ s = some (x, s1)) : dCons da dNil ρ s = some ([x], s1) := cons_of h1 rfl
theorem callB_of {f : List D → Option D} {xs : List D} (h1 : ax ρ s = some (xs, s1)) (h3 : f xs = some z) : dCallB f ax ρ s = some (z, s1) := by
  unfold dCallB
  rw [h1]
  show Option.map _ (f xs) = _
  rw [h3]; rfl
theorem b_of (h1 : da ρ s = some (.bl b, s1)) : dB da ρ s = some (b, s1) := by
  unfold dB
  rw [h1]; rfl
theorem not_of (h1 : bt ρ s = some (b, s1)) : dNot bt ρ s = some (!b, s1) := by
  unfold dNot
  rw [h1]; rfl
theorem asg_of {i : Nat} (h1 : da ρ s = some (x, s1)) : dAsg da (gdName i) ρ s = some (.nx (ρ.set i (.im x)), s1) := by
  unfold dAsg
  rw [h1]; rfl
theorem drop_of (h1 : da ρ s = some (x, s1)) : dDrop da ρ s = some (.nx ρ, s1) := by
  unfold dDrop
  rw [h1]; rfl
theorem iT {r : Option (D × Tau)} (h1 : bt ρ s = some (true, s)) (h2 : da ρ s = r) : dIf bt da db ρ s = r := by
  unfold dIf
  rw [h1]; exact h2
theorem iF {r : Option (D × Tau)} (h1 : bt ρ s = some (false, s)) (h2 : db ρ s = r) : dIf bt da db ρ s = r := by
  unfold dIf
  rw [h1]; exact h2
theorem iteT {r : Option (D × Tau)} (h1 : bt ρ s = some (true, s1)) (h2 : da ρ s1 = r) : dIf bt da db ρ s = r := by
  unfold dIf
  rw [h1]; exact h2
theorem iteF {r : Option (D × Tau)} (h1 : bt ρ s = some (false, s1)) (h2 : db ρ s1 = r) : dIf bt da db ρ s = r := by
  unfold dIf
  rw [h1]; exact h2
theorem ifE_of (h1 : bt ρ s = some (b, s1)) (h2 : b = true → da ρ s1 = some (x, s2)) (h3 : b = false → db ρ s1 = some (x, s2)) : dIf bt da db ρ s = some (x, s2) := by
  unfold dIf
  rw [h1]
  cases b with
  | true => exact h2 rfl
  | false => exact h3 rfl
theorem ifE_val (h1 : bt ρ s = some (b, s1)) (h2 : da ρ s1 = some (x, s2)) (h3 : db ρ s1 = some (y, s2)) : dIf bt da db ρ s = some (if b then x else y, s2) := by
  unfold dIf
  rw [h1]
  cases b with
  | true => exact h2
  | false => exact h3
theorem orF_of {a b : Dt} {r : Option (Bool × Tau)} (h1 : a ρ s = some (false, s1)) (h2 : b ρ s1 = r) : dOr a b ρ s = r := by
  unfold dOr
  rw [h1]; exact h2
theorem orT_of {a b : Dt} (h1 : a ρ s = some (true, s1)) : dOr a b ρ s = some (true, s1) := by
  unfold dOr
  rw [h1]; rfl
theorem or_val {a b : Dt} {x y : Bool} (h1 : a ρ s = some (x, s1)) (h2 : x = false → b ρ s1 = some (y, s1)) : dOr a b ρ s = some (x || y, s1) := by
  cases x with
  | true => exact orT_of h1
  | false => exact orF_of h1 (h2 rfl)
theorem andT_of {a b : Dt} {r : Option (Bool × Tau)} (h1 : a ρ s = some (true, s1)) (h2 : b ρ s1 = r) : dAnd a b ρ s = r := by
  unfold dAnd
  rw [h1]; exact h2
theorem andF_of {a b : Dt} (h1 : a ρ s = some (false, s1)) : dAnd a b ρ s = some (false, s1) := by
  unfold dAnd
  rw [h1]; rfl
theorem and_val {a b : Dt} {x y : Bool} (h1 : a ρ s = some (x, s1)) (h2 : x = true → b ρ s1 = some (y, s1)) : dAnd a b ρ s = some (x && y, s1) := by
  cases x with
  | true => exact andT_of h1 (h2 rfl)
  | false => exact andF_of h1
theorem andVT_of {r : Option (D × Tau)} (h1 : da ρ s = some (.bl true, s1)) (h2 : db ρ s1 = r) : dAndV da db ρ s = r := by
  unfold dAndV
  rw [h1]; exact h2
theorem andVF_of (h1 : da ρ s = some (.bl false, s1)) : dAndV da db ρ s = some (.bl false, s1) := by
  unfold dAndV
  rw [h1]; rfl
theorem andV_val {x y : Bool} (h1 : da ρ s = some (.bl x, s1)) (h2 : x = true → db ρ s1 = some (.bl y, s1)) : dAndV da db ρ s = some (.bl (x && y), s1) := by
  cases x with
  | true => exact andVT_of h1 (h2 rfl)
  | false => exact andVF_of h1
theorem orVF_of {r : Option (D × Tau)} (h1 : da ρ s = some (.bl false, s1)) (h2 : db ρ s1 = r) : dOrV da db ρ s = r := by
  unfold dOrV
  rw [h1]; exact h2
theorem orVT_of (h1 : da ρ s = some (.bl true, s1)) : dOrV da db ρ s = some (.bl true, s1) := by
  unfold dOrV
  rw [h1]; rfl
theorem orV_val {x y : Bool} (h1 : da ρ s = some (.bl x, s1)) (h2 : x = false → db ρ s1 = some (.bl y, s1)) : dOrV da db ρ s = some (.bl (x || y), s1) := by
  cases x with
  | true => exact orVT_of h1
  | false => exact orVF_of h1 (h2 rfl)
theorem chain_val {f g : D → D → Option D} {dc : Dn} {w : D} {b c : Bool} (h1 : da ρ s = some (x, s1)) (h2 : db ρ s1 = some (y, s1)) (h3 : f x y = some (.bl b)) (h4 : dc ρ s1 = some (w, s1)) (h5 : g y w = some (.bl c)) : dChain f g da db dc ρ s = some (.bl (b && c), s1) := by
  unfold dChain
  rw [h1]
  show Option.bind (db ρ s1) _ = _
  rw [h2]
  show Option.bind (f x y) _ = _
  rw [h3]
  cases b with
  | false => rfl
  | true =>
    show Option.bind (dc ρ s1) _ = _
    rw [h4]
    show Option.map _ (g y w) = _
    rw [h5]; rfl
theorem sl_of {lo hi : Do} {l h : Option Int} {s3 : Tau} (h1 : da ρ s = some (x, s1)) (h2 : lo ρ s1 = some (l, s2)) (h3 : hi ρ s2 = some (h, s3)) (h4 : slD x l h = some z) : dSl slD da lo hi ρ s = some (z, s3) := by
  unfold dSl
  rw [h1]
  show Option.bind (lo ρ s1) _ = _
  rw [h2]
  show Option.bind (hi ρ s2) _ = _
  rw [h3]
  show Option.map _ (slD x l h) = _
  rw [h4]; rfl
theorem some_of {i : Int} (h1 : da ρ s = some (.int i, s1)) : dSome da ρ s = some (some i, s1) := by
  unfold dSome
  rw [h1]; rfl
theorem methS_of {f : Str → List D → Option D} {t : Str} {xs : List D} (h1 : da ρ s = some (.str t, s1)) (h2 : ax ρ s1 = some (xs, s2)) (h3 : f t xs = some z) : dMethS f da ax ρ s = some (z, s2) := by
  unfold dMethS
  rw [h1]
  show Option.bind (ax ρ s1) _ = _
  rw [h2]
  show Option.map _ (f t xs) = _
  rw [h3]; rfl
theorem itS_of {t : Str} (h1 : da ρ s = some (.str t, s1)) : dItS da ρ s = some (chL t, s1) := by
  unfold dItS
  rw [h1]; rfl
theorem itL_of {xs : List D} (h1 : da ρ s = some (.lst xs, s1)) : dItL da ρ s = some (xs, s1) := by
  unfold dItL
  rw [h1]; rfl
theorem itT_of {xs : List D} (h1 : da ρ s = some (x, s1)) (h2 : x.asT = some xs) : dItT da ρ s = some (xs, s1) := by
  unfold dItT
  rw [h1]
  show Option.map _ x.asT = _
  rw [h2]; rfl
theorem enT_of {xs : List D} (h1 : ax ρ s = some ([x], s1)) (h2 : x.asT = some xs) : dEnT ax ρ s = some (enumL 0 xs, s1) := by
  unfold dEnT
  rw [h1]
  show Option.map _ x.asT = _
  rw [h2]; rfl
theorem dp_cons {dr : Dp2} {k : Str} {es : List (Str × D)} {s3 : Tau} (h1 : da ρ s = some (.str k, s1)) (h2 : db ρ s1 = some (x, s2)) (h3 : dr ρ s2 = some (es, s3)) : dpCons da db dr ρ s = some ((k, x) :: es, s3) := by
  unfold dpCons
  rw [h1]
  show Option.bind (db ρ s1) _ = _
  rw [h2]
  show Option.map _ (dr ρ s2) = _
  rw [h3]; rfl
theorem disp_of {dr : Dp2} {es : List (Str × D)} (h1 : dr ρ s = some (es, s1)) (hl : es.length ≤ 15) : dDisp dr ρ s = some (.dS (mergeD [] es), s1) := by
  unfold dDisp
  rw [h1]
  show (if es.length ≤ 15 then _ else _) = _
  rw [if_pos hl]
theorem tup_of {xs : List D} (h1 : ax ρ s = some (xs, s1)) (hl : xs.length ≤ 1000000) : dTup ax ρ s = some (.tup xs, s1) := by
  unfold dTup
  rw [h1]
  show (if xs.length ≤ 1000000 then _ else _) = _
  rw [if_pos hl]
theorem lst_of {xs : List D} (h1 : ax ρ s = some (xs, s1)) (hl : xs.length ≤ 1000000) : dLst ax ρ s = some (.lst xs, s1) := by
  unfold dLst
  rw [h1]
  show (if xs.length ≤ 1000000 then _ else _) = _
  rw [if_pos hl]
theorem star_of {xs ys : List D} (h1 : da ρ s = some (x, s1)) (h2 : x.its = some xs) (h3 : ar ρ s1 = some (ys, s2)) : dStar da ar ρ s = some (xs ++ ys, s2) := by
  unfold dStar
  rw [h1]
  show Option.bind x.its _ = _
  rw [h2]
  show Option.map _ (ar ρ s1) = _
  rw [h3]; rfl
theorem par_of {i j : Nat} (h1 : ax ρ s = some ([x, y], s1)) : dPar i j ax ρ s = some (.nx ((ρ.set i (.im x)).set j (.im y)), s1) := by
  unfold dPar
  rw [h1]; rfl
theorem asg2_of {i j : Nat} (h1 : da ρ s = some (.tup [x, y], s1)) : dAsg da (gdTup 2 (gdCons (gdName i) (gdCons (gdName j) gdNil))) ρ s = some (.nx ((ρ.set i (.im x)).set j (.im y)), s1) := by
  unfold dAsg
  rw [h1]; rfl
theorem ix_of {xs : List D} {i : Nat} (h : x.its = some xs) (h2 : xs[i]? = some z) : ixD x (.int (i : Nat)) = some z := by
  have key : atI xs (i : Int) = xs[i]? := by
    unfold atI ixN
    rw [if_pos (by omega)]
    by_cases z : (i : Int) < xs.length
    · rw [if_pos z]; rfl
    · rw [if_neg z, List.getElem?_eq_none (by omega)]; rfl
  cases x with
  | tup => cases h; exact key.trans h2
  | ktp => cases h; exact key.trans h2
  | lst => cases h; exact key.trans h2
  | _ => cases h
end
/-! comprehensions, loops -/
section
variable {α : Type} {g : Dg} {bt : Dt} {de : Dn} {di : Da} {vs : List Nat} {ρ : List Sl} {s : Tau}
theorem lcGo_map (enc : α → D) (p : α → Bool) (f : α → D) : ∀ (ys : List α), (∀ y ∈ ys, ∃ ρ1, g (enc y) ρ = some ρ1 ∧ bt ρ1 s = some (p y, s) ∧ (p y = true → de ρ1 s = some (f y, s))) →
    lcGo g bt de ρ (ys.map enc) s = some ((ys.filter p).map f, s)
  | [], _ => rfl
  | y :: ys, h => by
    obtain ⟨ρ1, h1, h2, h3⟩ := h y List.mem_cons_self
    have ih := lcGo_map enc p f ys fun z hz => h z (List.mem_cons_of_mem _ hz)
    show ((g (enc y) ρ).bind fun ρ1 => (bt ρ1 s).bind fun b => if b.1 = true then (de ρ1 b.2).bind fun z => (lcGo g bt de ρ (ys.map enc) z.2).map fun r => (z.1 :: r.1, r.2) else lcGo g bt de ρ (ys.map enc) b.2) = _
    rw [h1]
    show ((bt ρ1 s).bind fun b => if b.1 = true then (de ρ1 b.2).bind fun z => (lcGo g bt de ρ (ys.map enc) z.2).map fun r => (z.1 :: r.1, r.2) else lcGo g bt de ρ (ys.map enc) b.2) = _
    rw [h2]
    cases q : p y with
    | false =>
      rw [List.filter_cons_of_neg (by rw [q]; decide)]
      exact ih
    | true =>
      rw [List.filter_cons_of_pos q]
      show ((de ρ1 s).bind fun z => (lcGo g bt de ρ (ys.map enc) z.2).map fun r => (z.1 :: r.1, r.2)) = _
      rw [h3 q]
      show (lcGo g bt de ρ (ys.map enc) s).map (fun r => (f y :: r.1, r.2)) = _
      rw [ih]; rfl
theorem lc_map (enc : α → D) (p : α → Bool) (f : α → D) (ys : List α) (hi : di ρ s = some (ys.map enc, s)) (hl : ys.length ≤ 1000000)
    (h : ∀ y ∈ ys, ∃ ρ1, g (enc y) (wipeD ρ vs) = some ρ1 ∧ bt ρ1 s = some (p y, s) ∧ (p y = true → de ρ1 s = some (f y, s))) :
    dLc di g bt de vs ρ s = some (.lst ((ys.filter p).map f), s) := by
  unfold dLc
  rw [hi]
  show (if (ys.map enc).length ≤ 1000000 then (lcGo g bt de (wipeD ρ vs) (ys.map enc) s).map fun r => (D.lst r.1, r.2) else none) = _
  rw [if_pos (by rw [List.length_map]; exact hl), lcGo_map enc p f ys h]; rfl
theorem lc_all (enc : α → D) (f : α → D) (ys : List α) (hi : di ρ s = some (ys.map enc, s)) (hl : ys.length ≤ 1000000)
    (h : ∀ y ∈ ys, ∃ ρ1, g (enc y) (wipeD ρ vs) = some ρ1 ∧ de ρ1 s = some (f y, s)) :
    dLc di g dYes de vs ρ s = some (.lst (ys.map f), s) := by
  have e := lc_map (bt := dYes) enc (fun _ => true) f ys hi hl fun y hy => by
    obtain ⟨ρ1, h1, h2⟩ := h y hy
    exact ⟨ρ1, h1, rfl, fun _ => h2⟩
  rw [e, List.filter_eq_self.mpr fun _ _ => rfl]
/-- draws in a comprehension -/
theorem lcGo_thread (Inv : Tau → Prop) (R : D → Prop) : ∀ (xs : List D), (∀ x ∈ xs, ∀ s, Inv s → ∃ ρ1 d s', g x ρ = some ρ1 ∧ de ρ1 s = some (d, s') ∧ R d ∧ Inv s') →
    ∀ s, Inv s → ∃ ds s', lcGo g dYes de ρ xs s = some (ds, s') ∧ ds.length = xs.length ∧ (∀ d ∈ ds, R d) ∧ Inv s'
  | [], _, s, hs => ⟨[], s, rfl, rfl, (fun _ h => by cases h), hs⟩
  | x :: xs, h, s, hs => by
    obtain ⟨ρ1, d, s1, h1, h2, h3, h4⟩ := h x List.mem_cons_self s hs
    obtain ⟨ds, s2, h5, h6, h7, h8⟩ := lcGo_thread Inv R xs (fun z hz => h z (List.mem_cons_of_mem _ hz)) s1 h4
    refine ⟨d :: ds, s2, ?_, congrArg Nat.succ h6, ?_, h8⟩
    · show ((g x ρ).bind fun ρ1 => (dYes ρ1 s).bind fun b => if b.1 = true then (de ρ1 b.2).bind fun y => (lcGo g dYes de ρ xs y.2).map fun r => (y.1 :: r.1, r.2) else lcGo g dYes de ρ xs b.2) = _
      rw [h1]
      show ((de ρ1 s).bind fun y => (lcGo g dYes de ρ xs y.2).map fun r => (y.1 :: r.1, r.2)) = _
      rw [h2]
      show (lcGo g dYes de ρ xs s1).map (fun r => (d :: r.1, r.2)) = _
      rw [h5]; rfl
    · intro z hz
      rcases List.mem_cons.mp hz with rfl | hz
      · exact h3
      · exact h7 z hz
theorem lc_thread (Inv : Tau → Prop) (R : D → Prop) {xs : List D} {s1 : Tau} (hi : di ρ s = some (xs, s1)) (hl : xs.length ≤ 1000000) (h1 : Inv s1)
    (h : ∀ x ∈ xs, ∀ s, Inv s → ∃ ρ1 d s', g x (wipeD ρ vs) = some ρ1 ∧ de ρ1 s = some (d, s') ∧ R d ∧ Inv s') :
    ∃ ds s', dLc di g dYes de vs ρ s = some (.lst ds, s') ∧ ds.length = xs.length ∧ (∀ d ∈ ds, R d) ∧ Inv s' := by
  obtain ⟨ds, s', h2, h3, h4, h5⟩ := lcGo_thread Inv R xs h s1 h1
  refine ⟨ds, s', ?_, h3, h4, h5⟩
  unfold dLc
  rw [hi]
  show (if xs.length ≤ 1000000 then (lcGo g dYes de (wipeD ρ vs) xs s1).map fun r => (D.lst r.1, r.2) else none) = _
  rw [if_pos hl, h2]; rfl
/-- a loop that goes on -/
theorem loop_nx {b : Ds} (Inv : Tau → Prop) (J : List Sl → Prop) : ∀ (xs : List D), (∀ x ∈ xs, ∀ ρ s, J ρ → Inv s → ∃ ρ1 ρ2 s', g x ρ = some ρ1 ∧ b ρ1 s = some (.nx ρ2, s') ∧ J ρ2 ∧ Inv s') →
    ∀ ρ s, J ρ → Inv s → ∃ ρ2 s', dLoop g b xs ρ s = some (.nx ρ2, s') ∧ J ρ2 ∧ Inv s'
  | [], _, ρ, s, hj, hs => ⟨ρ, s, rfl, hj, hs⟩
  | x :: xs, h, ρ, s, hj, hs => by
    obtain ⟨ρ1, ρ2, s1, h1, h2, h3, h4⟩ := h x List.mem_cons_self ρ s hj hs
    obtain ⟨ρ3, s2, h5, h6, h7⟩ := loop_nx Inv J xs (fun z hz => h z (List.mem_cons_of_mem _ hz)) ρ2 s1 h3 h4
    refine ⟨ρ3, s2, ?_, h6, h7⟩
    show ((g x ρ).bind fun ρ1 => (b ρ1 s).bind fun p => match p.1 with
      | .nx ρ2 => dLoop g b xs ρ2 p.2
      | .ct ρ2 => dLoop g b xs ρ2 p.2
      | .bk ρ2 => some (.nx ρ2, p.2)
      | .rt d o => some (.rt d o, p.2)) = _
    rw [h1]
    show ((b ρ1 s).bind fun p => match p.1 with
      | .nx ρ2 => dLoop g b xs ρ2 p.2
      | .ct ρ2 => dLoop g b xs ρ2 p.2
      | .bk ρ2 => some (.nx ρ2, p.2)
      | .rt d o => some (.rt d o, p.2)) = _
    rw [h2]
    exact h5
/-- a loop, known by what it has passed -/
theorem loop_pre {α : Type} {b : Ds} (enc : α → D) (J : List α → List Sl → Tau → Prop) (all : List α) (h : ∀ (pre : List α) (y : α) (post : List α), all = pre ++ y :: post → ∀ ρ s, J pre ρ s → ∃ ρ1 ρ2 s', g (enc y) ρ = some ρ1 ∧ b ρ1 s = some (.nx ρ2, s') ∧ J (pre ++ [y]) ρ2 s') :
    ∀ (ys pre : List α), all = pre ++ ys → ∀ ρ s, J pre ρ s → ∃ ρ2 s', dLoop g b (ys.map enc) ρ s = some (.nx ρ2, s') ∧ J all ρ2 s'
  | [], pre, e, ρ, s, hj => ⟨ρ, s, rfl, by rw [e, List.append_nil]; exact hj⟩
  | y :: ys, pre, e, ρ, s, hj => by
    obtain ⟨ρ1, ρ2, s1, h1, h2, h3⟩ := h pre y ys e ρ s hj
    obtain ⟨ρ3, s2, h5, h6⟩ := loop_pre enc J all h ys (pre ++ [y]) (by rw [e, List.append_assoc]; rfl) ρ2 s1 h3
    refine ⟨ρ3, s2, ?_, h6⟩
    show ((g (enc y) ρ).bind fun ρ1 => (b ρ1 s).bind fun p => match p.1 with
      | .nx ρ2 => dLoop g b (ys.map enc) ρ2 p.2
      | .ct ρ2 => dLoop g b (ys.map enc) ρ2 p.2
      | .bk ρ2 => some (.nx ρ2, p.2)
      | .rt d o => some (.rt d o, p.2)) = _
    rw [h1]
    show ((b ρ1 s).bind fun p => match p.1 with
      | .nx ρ2 => dLoop g b (ys.map enc) ρ2 p.2
      | .ct ρ2 => dLoop g b (ys.map enc) ρ2 p.2
      | .bk ρ2 => some (.nx ρ2, p.2)
      | .rt d o => some (.rt d o, p.2)) = _
    rw [h2]
    exact h5
theorem for_pre {α : Type} {it : Da} {b : Ds} {s1 : Tau} (enc : α → D) (J : List α → List Sl → Tau → Prop) (all : List α) (hi : it ρ s = some (all.map enc, s1)) (hj : J [] ρ s1)
    (h : ∀ (pre : List α) (y : α) (post : List α), all = pre ++ y :: post → ∀ ρ s, J pre ρ s → ∃ ρ1 ρ2 s', g (enc y) ρ = some ρ1 ∧ b ρ1 s = some (.nx ρ2, s') ∧ J (pre ++ [y]) ρ2 s') : ∃ ρ2 s', dFor it g b ρ s = some (.nx ρ2, s') ∧ J all ρ2 s' := by
  obtain ⟨ρ2, s', h1, h2⟩ := loop_pre enc J all h all [] rfl ρ s1 hj
  refine ⟨ρ2, s', ?_, h2⟩
  unfold dFor
  rw [hi]; exact h1
theorem for_nx {it : Da} {b : Ds} {xs : List D} {s1 : Tau} (Inv : Tau → Prop) (J : List Sl → Prop) (hi : it ρ s = some (xs, s1)) (hj : J ρ) (hs : Inv s1)
    (h : ∀ x ∈ xs, ∀ ρ s, J ρ → Inv s → ∃ ρ1 ρ2 s', g x ρ = some ρ1 ∧ b ρ1 s = some (.nx ρ2, s') ∧ J ρ2 ∧ Inv s') : ∃ ρ2 s', dFor it g b ρ s = some (.nx ρ2, s') ∧ J ρ2 ∧ Inv s' := by
  obtain ⟨ρ2, s', h1, h2, h3⟩ := loop_nx Inv J xs h ρ s1 hj hs
  refine ⟨ρ2, s', ?_, h2, h3⟩
  unfold dFor
  rw [hi]; exact h1
end
theorem rngL_zero (n : Nat) : rngL 0 n = (List.range n).map fun i => D.int (i : Nat) := by
  unfold rngL
  refine List.map_congr_left fun i _ => ?_
  rw [Int.zero_add]
theorem rng1_of {ax : Da} {ρ : List Sl} {s s1 : Tau} {n : Nat} (h : ax ρ s = some ([.int (n : Nat)], s1)) (hn : n ≤ 1000000) : dRng1 ax ρ s = some ((List.range n).map (fun i : Nat => D.int i), s1) := by
  unfold dRng1
  rw [h]
  show (if decide (-1000000 ≤ (n : Int) ∧ (n : Int) ≤ 1000000) = true then some (rngL 0 (n : Int).toNat, s1) else none) = _
  rw [if_pos (decide_eq_true (by omega)), Int.toNat_natCast, rngL_zero]
theorem rng2_of {ax : Da} {ρ : List Sl} {s s1 : Tau} {m n : Nat} (h : ax ρ s = some ([.int (m : Nat), .int (n : Nat)], s1)) (hm : m ≤ 1000000) (hn : n ≤ 1000000) : dRng2 ax ρ s = some ((List.range (n - m)).map (fun i : Nat => D.int (m + i : Nat)), s1) := by
  unfold dRng2
  rw [h]
  show (if decide (-1000000 ≤ (m : Int) ∧ (m : Int) ≤ 1000000 ∧ -1000000 ≤ (n : Int) ∧ (n : Int) ≤ 1000000) = true then some (rngL m ((n : Int) - m).toNat, s1) else none) = _
  rw [if_pos (decide_eq_true (by omega)), show ((n : Int) - m).toNat = n - m by omega]
  rfl
theorem enumL_zip (enc : α → D) : ∀ (bs : List α) (k : Nat), enumL k (bs.map enc) = (bs.zipIdx k).map fun z => D.ktp [.int (z.2 : Nat), enc z.1]
  | [], _ => rfl
  | b :: bs, k => by
    show D.ktp [.int (k : Nat), enc b] :: enumL (k + 1) (bs.map enc) = _
    rw [enumL_zip enc bs (k + 1)]; rfl
/-! equal data: alike -/
theorem convL_map {α : Type} (enc : α → D) (cv : α → PyData) (h : ∀ x, (enc x).conv = some (cv x)) : ∀ xs : List α, convL (xs.map enc) = some (xs.map cv)
  | [] => rfl
  | x :: xs => by
    show ((enc x).conv.bind fun y => (convL (xs.map enc)).map fun ys => y :: ys) = _
    rw [h x, convL_map enc cv h xs]; rfl
theorem convL_len : ∀ {xs : List D} {ps : List PyData}, convL xs = some ps → xs.length = ps.length
  | [], _, h => by cases h; rfl
  | x :: xs, ps, h => by
    obtain ⟨p, h1, h⟩ := bind_some_of h
    obtain ⟨qs, h2, rfl⟩ := map_some_of h
    exact congrArg Nat.succ (convL_len h2)
theorem convL_get : ∀ {xs : List D} {ps : List PyData} {i : Nat} {p : PyData}, convL xs = some ps → ps[i]? = some p → ∃ x, xs[i]? = some x ∧ x.conv = some p
  | [], _, i, p, h, e => by cases h; cases e
  | x :: xs, ps, i, p, h, e => by
    obtain ⟨q, h1, h⟩ := bind_some_of h
    obtain ⟨qs, h2, rfl⟩ := map_some_of h
    cases i with
    | zero => cases e; exact ⟨x, rfl, h1⟩
    | succ i => exact convL_get (i := i) h2 e
theorem depthAll_get : ∀ {ps : List PyData} {i : Nat} {p : PyData}, ps[i]? = some p → p.depth ≤ PyData.depthAll ps
  | [], i, p, e => by cases e
  | q :: ps, i, p, e => by
    show p.depth ≤ max q.depth (PyData.depthAll ps)
    cases i with
    | zero => cases e; exact Nat.le_max_left _ _
    | succ i => exact Nat.le_trans (depthAll_get (i := i) e) (Nat.le_max_right _ _)
theorem canLay_get : ∀ {ps : List PyData} {i : Nat} {p : PyData}, PyData.canLayAll0 ps = true → ps[i]? = some p → p.canLay0 = true
  | [], i, p, _, e => by cases e
  | q :: ps, i, p, h, e => by
    obtain ⟨h1, h2⟩ := Bool.and_eq_true_iff.mp (show (q.canLay0 && PyData.canLayAll0 ps) = true from h)
    cases i with
    | zero => cases e; exact h1
    | succ i => exact canLay_get (i := i) h2 e
end Dl
end
section
set_option Elab.async false
set_option linter.all false
set_option maxRecDepth 100000
set_option maxHeartbeats 4000000
namespace Dl
open PySem L2 PyProof.Rows
/-! rows of voices, texts of signs -/
def vs (b : Bool) : Str := bif b then "allow" else "deny"
def cn (b : Bool) : Nat := bif b then 43 else 45
def sg (b : Bool) : Str := ⟨#[cn b]⟩
def vD (b : Bool) : D := .str (vs b)
def gD (b : Bool) : D := .str (sg b)
def tx (bs : List Bool) : Str := ⟨(bs.map cn).toArray⟩
def row (bs : List Bool) : D := .tup (bs.map vD)
theorem cn_inj : ∀ a b : Bool, (cn a = cn b) ↔ a = b := by decide
theorem vs_ok : ∀ b : Bool, PyData.strOk (vs b) = true := by decide +kernel
theorem sg_ok : ∀ b : Bool, PyData.strOk (sg b) = true := by decide +kernel
theorem vs_eq : ∀ a b : Bool, (vs a == vs b) = (a == b) := by decide
theorem sg_eq : ∀ a b : Bool, (sg a == sg b) = (a == b) := by decide
theorem tx_len (bs : List Bool) : (tx bs).length = bs.length := by
  show (bs.map cn).toArray.size = _
  rw [List.size_toArray, List.length_map]
theorem tx_list (bs : List Bool) : (tx bs).cps.toList = bs.map cn := rfl
theorem tx_one (b : Bool) : tx [b] = sg b := rfl
theorem tx_app (a b : List Bool) : tx a ++ tx b = tx (a ++ b) := by
  show (⟨(a.map cn).toArray ++ (b.map cn).toArray⟩ : Str) = ⟨((a ++ b).map cn).toArray⟩
  rw [List.map_append, List.append_toArray]
theorem tx_ch (bs : List Bool) : chL (tx bs) = bs.map gD := by
  show ((bs.map cn).map fun k => D.str ⟨#[k]⟩) = _
  rw [List.map_map]; rfl
theorem tx_cut (bs : List Bool) (lo hi : Option Int) : cutS (tx bs) lo hi = tx (cutL bs lo hi) := by
  unfold cutS cutL
  rw [tx_len, tx_list]
  show (⟨(((bs.map cn).drop _).take _).toArray⟩ : Str) = ⟨(((bs.drop _).take _).map cn).toArray⟩
  rw [List.map_take, List.map_drop]
theorem row_cut (bs : List Bool) (lo hi : Option Int) : cutL (bs.map vD) lo hi = (cutL bs lo hi).map vD := by
  unfold cutL
  rw [List.length_map, List.map_take, List.map_drop]
theorem cut_to {α : Type} (xs : List α) (i : Nat) : cutL xs none (some (i : Int)) = xs.take i := by
  unfold cutL
  rw [HT.sIx_none, HT.sIx_nat, List.drop_zero, Nat.sub_zero]
  by_cases h : i ≤ xs.length
  · rw [Nat.min_eq_left h]
  · rw [Nat.min_eq_right (by omega), List.take_of_length_le (Nat.le_refl _), List.take_of_length_le (by omega)]
theorem cut_from {α : Type} (xs : List α) (i : Nat) : cutL xs (some (i : Int)) none = xs.drop i := by
  unfold cutL
  rw [HT.sIx_none, HT.sIx_nat]
  by_cases h : i ≤ xs.length
  · rw [Nat.min_eq_left h]
    exact List.take_of_length_le (by rw [List.length_drop]; exact Nat.le_refl _)
  · rw [Nat.min_eq_right (by omega), Nat.sub_self, List.drop_eq_nil_of_le (Nat.le_refl _), List.drop_eq_nil_of_le (by omega)]; rfl
theorem ix_tx {bs : List Bool} (hl : bs.length ≤ 1000000) {i : Int} {b : Bool} (h : atI bs i = some b) : ixD (.str (tx bs)) (.int i) = some (gD b) := by
  show (if (tx bs).length ≤ 1000000 then (atI (tx bs).cps.toList i).map fun c => D.str ⟨#[c]⟩ else none) = _
  rw [if_pos (by rw [tx_len]; exact hl), tx_list, atI_map, h]; rfl
theorem ix_row {bs : List Bool} {i : Int} {b : Bool} (h : atI bs i = some b) : ixD (row bs) (.int i) = some (vD b) := by
  show ((some (bs.map vD)).bind fun xs => atI xs i) = _
  show atI (bs.map vD) i = _
  rw [atI_map, h]; rfl
theorem at_nat {α : Type} (xs : List α) (i : Nat) : atI xs (i : Int) = xs[i]? := by
  unfold atI ixN
  rw [if_pos (by omega)]
  by_cases z : (i : Int) < xs.length
  · rw [if_pos z]; rfl
  · rw [if_neg z, List.getElem?_eq_none (by omega)]; rfl
theorem at_last {α : Type} (xs : List α) (h : xs ≠ []) : atI xs (-1) = xs.getLast? := by
  have hp : 0 < xs.length := List.length_pos_iff.mpr h
  unfold atI ixN
  rw [if_neg (by decide), if_pos (by omega), show (-1 + (xs.length : Int)).toNat = xs.length - 1 by omega, List.getLast?_eq_getElem?]; rfl
theorem len_tx {bs : List Bool} (hl : bs.length ≤ 1000000) : lenD [.str (tx bs)] = some (.int bs.length) := by
  show (if (tx bs).length ≤ 1000000 then some (D.int (tx bs).length) else none) = _
  rw [if_pos (by rw [tx_len]; exact hl), tx_len]
theorem len_row (bs : List Bool) : lenD [row bs] = some (.int bs.length) := by
  show some (D.int (bs.map vD).length) = _
  rw [List.length_map]
theorem sl_tx {bs : List Bool} (hl : bs.length ≤ 1000000) (lo hi : Option Int) : slD (.str (tx bs)) lo hi = some (.str (tx (cutL bs lo hi))) := by
  show (if (tx bs).length ≤ 1000000 then some (D.str (cutS (tx bs) lo hi)) else none) = _
  rw [if_pos (by rw [tx_len]; exact hl), tx_cut]
theorem sl_row (bs : List Bool) (lo hi : Option Int) : slD (row bs) lo hi = some (.ktp ((cutL bs lo hi).map vD)) := by
  show some (D.ktp (cutL (bs.map vD) lo hi)) = _
  rw [row_cut]
theorem add_tx {a b : List Bool} (hl : a.length + b.length ≤ 1000000) : addD (.str (tx a)) (.str (tx b)) = some (.str (tx (a ++ b))) := by
  show (if (tx a).length + (tx b).length ≤ 1000000 then some (D.str (tx a ++ tx b)) else none) = _
  rw [if_pos (by rw [tx_len, tx_len]; exact hl), tx_app]
theorem cnt_tx (c : Bool) : ∀ bs : List Bool, cnt (cn c) (bs.map cn) = (bs.count c : Nat)
  | [] => rfl
  | b :: bs => by
    rw [List.map_cons, cnt_cons, cnt_tx c bs, List.count_cons]
    cases b <;> cases c <;> simp [cn] <;> omega
theorem count_tx (bs : List Bool) (c : Bool) : countSD (tx bs) [.str (sg c)] = some (.int (bs.count c : Nat)) := by
  show some (D.int (Txt.count (tx bs) ⟨#[cn c]⟩)) = _
  rw [count_cnt, tx_list, cnt_tx]
theorem strs_map {α : Type} (f : α → Str) : ∀ xs : List α, strsOf (xs.map fun x => D.str (f x)) = some (xs.map f)
  | [] => rfl
  | x :: xs => by
    show (strsOf (xs.map fun x => D.str (f x))).map (fun bs => f x :: bs) = _
    rw [strs_map f xs]; rfl
theorem vs_inj : ∀ a b : Bool, vs a = vs b → a = b := by decide
theorem count_map_inj {α β : Type} [BEq α] [LawfulBEq α] [BEq β] [LawfulBEq β] {f : α → β} (h : ∀ a b, f a = f b → a = b) (c : α) : ∀ xs : List α, (xs.map f).count (f c) = xs.count c
  | [] => rfl
  | x :: xs => by
    rw [List.map_cons, List.count_cons, List.count_cons, count_map_inj h c xs]
    by_cases e : x = c
    · subst e; simp
    · rw [beq_eq_false_iff_ne.mpr e, beq_eq_false_iff_ne.mpr fun z => e (h _ _ z)]
theorem count_row (bs : List Bool) (c : Bool) : countD (row bs) (vD c) = some (.int (bs.count c : Nat)) := by
  show (strsOf (bs.map fun b => D.str (vs b))).map (fun ys => D.int ((ys.count (vs c) : Nat) : Int)) = _
  rw [strs_map]
  show some (D.int (((bs.map vs).count (vs c) : Nat) : Int)) = _
  rw [count_map_inj vs_inj]
theorem depth_strs (xs : List Str) : PyData.depthAll (xs.map PyData.str) = 0 := by
  induction xs with
  | nil => rfl
  | cons x xs ih =>
    show max 0 (PyData.depthAll (xs.map PyData.str)) = 0
    rw [ih]; rfl
theorem lay_strs : ∀ {xs : List Str}, (∀ x ∈ xs, PyData.strOk x = true) → PyData.canLayAll0 (xs.map PyData.str) = true
  | [], _ => rfl
  | x :: xs, h => by
    show (PyData.strOk x && PyData.canLayAll0 (xs.map PyData.str)) = true
    rw [h x List.mem_cons_self, lay_strs fun z hz => h z (List.mem_cons_of_mem _ hz)]; rfl
theorem shaped_strsL {xs : List Str} (h : ∀ x ∈ xs, PyData.strOk x = true) : SeqAt.shaped (.list (xs.map PyData.str)) = true := by
  unfold SeqAt.shaped
  rw [Bool.and_eq_true]
  refine ⟨lay_strs h, decide_eq_true ?_⟩
  show PyData.depthAll (xs.map PyData.str) + 1 ≤ 64
  rw [depth_strs]; decide
theorem shaped_strsT {xs : List Str} (h : ∀ x ∈ xs, PyData.strOk x = true) : SeqAt.shaped (.tuple (xs.map PyData.str)) = true := by
  unfold SeqAt.shaped
  rw [Bool.and_eq_true]
  refine ⟨lay_strs h, decide_eq_true ?_⟩
  show PyData.depthAll (xs.map PyData.str) + 1 ≤ 64
  rw [depth_strs]; decide
theorem depth_ints : ∀ xs : List Int, PyData.depthAll (xs.map PyData.int) = 0
  | [] => rfl
  | x :: xs => by
    show max 0 (PyData.depthAll (xs.map PyData.int)) = 0
    rw [depth_ints xs]; rfl
theorem lay_ints : ∀ xs : List Int, PyData.canLayAll0 (xs.map PyData.int) = true
  | [] => rfl
  | x :: xs => by
    show (true && PyData.canLayAll0 (xs.map PyData.int)) = true
    rw [lay_ints xs]; rfl
theorem shaped_intsL (xs : List Int) : SeqAt.shaped (.list (xs.map PyData.int)) = true := by
  unfold SeqAt.shaped
  rw [Bool.and_eq_true]
  refine ⟨lay_ints xs, decide_eq_true ?_⟩
  show PyData.depthAll (xs.map PyData.int) + 1 ≤ 64
  rw [depth_ints]; decide
theorem eq_ints_nil (xs : List Int) : eqD (.lst (xs.map D.int)) (.lst []) = some (.bl (decide (xs.length = 0))) := by
  unfold eqD
  rw [eqB_of (x := .list (xs.map PyData.int)) (y := .list []) (by show (convL (xs.map D.int)).map PyData.list = _; rw [convL_map D.int PyData.int fun _ => rfl]; rfl) rfl (shaped_intsL xs) rfl]
  cases xs <;> rfl
theorem vs_all (bs : List Bool) : ∀ x ∈ bs.map vs, PyData.strOk x = true := fun x h => by
  obtain ⟨b, _, rfl⟩ := List.mem_map.mp h
  exact vs_ok b
theorem any_str (y : Str) (xs : List Str) : ((xs.map PyData.str).any fun z => PyData.eqv z (.str y)) = xs.contains y := by
  induction xs with
  | nil => rfl
  | cons x xs ih =>
    rw [List.map_cons, List.any_cons, ih, List.contains_cons]
    show (x == y || xs.contains y) = _
    rw [show (x == y) = (y == x) from BEq.comm]
theorem inB_strs {d : D} {ds : List D} {xs : List Str} {y : Str} (hd : d.its = some ds) (he : ds = xs.map D.str) (hx : ∀ x ∈ xs, PyData.strOk x = true) (hy : PyData.strOk y = true) : inB (.str y) d = some (xs.contains y) := by
  unfold inB
  subst he
  show (d.its.bind fun es => (convL es).bind fun ys => if (SeqAt.shaped (.str y) && SeqAt.shaped (.list ys) && SeqAt.shaped (.tuple ys)) = true then some (ys.any fun z => PyData.eqv z (.str y)) else none) = _
  rw [hd]
  show ((convL (xs.map D.str)).bind fun ys => if (SeqAt.shaped (.str y) && SeqAt.shaped (.list ys) && SeqAt.shaped (.tuple ys)) = true then some (ys.any fun z => PyData.eqv z (.str y)) else none) = _
  rw [convL_map D.str PyData.str fun _ => rfl]
  show (if (SeqAt.shaped (.str y) && SeqAt.shaped (.list (xs.map PyData.str)) && SeqAt.shaped (.tuple (xs.map PyData.str))) = true then some ((xs.map PyData.str).any fun z => PyData.eqv z (.str y)) else none) = _
  rw [if_pos (by rw [shaped_str hy, shaped_strsL hx, shaped_strsT hx]; rfl), any_str]
theorem contains_map_inj {α β : Type} [BEq α] [LawfulBEq α] [BEq β] [LawfulBEq β] {f : α → β} (h : ∀ a b, f a = f b → a = b) (c : α) : ∀ xs : List α, (xs.map f).contains (f c) = xs.contains c
  | [] => rfl
  | x :: xs => by
    rw [List.map_cons, List.contains_cons, List.contains_cons, contains_map_inj h c xs]
    by_cases e : c = x
    · subst e; simp
    · rw [beq_eq_false_iff_ne.mpr e, beq_eq_false_iff_ne.mpr fun z => e (h _ _ z)]
theorem in_row (bs : List Bool) (c : Bool) : inB (vD c) (row bs) = some (bs.contains c) := by
  refine (inB_strs (xs := bs.map vs) rfl (by rw [List.map_map]; rfl) (vs_all bs) (vs_ok c)).trans ?_
  rw [contains_map_inj vs_inj]
theorem eq_v (a b : Bool) : eqD (vD a) (vD b) = some (.bl (a == b)) := (eqD_str (vs_ok a) (vs_ok b)).trans (by rw [vs_eq])
theorem ne_v (a b : Bool) : neD (vD a) (vD b) = some (.bl (!(a == b))) := (neD_str (vs_ok a) (vs_ok b)).trans (by rw [vs_eq])
theorem eq_g (a b : Bool) : eqD (gD a) (gD b) = some (.bl (a == b)) := (eqD_str (sg_ok a) (sg_ok b)).trans (by rw [sg_eq])
theorem ne_g (a b : Bool) : neD (gD a) (gD b) = some (.bl (!(a == b))) := (neD_str (sg_ok a) (sg_ok b)).trans (by rw [sg_eq])
theorem join_go : ∀ (ps : List Str) (acc : Array Nat), ps.foldl (fun acc p => acc ++ (#[] : Array Nat) ++ p.cps) acc = acc ++ (ps.flatMap fun z => z.cps.toList).toArray
  | [], acc => by simp
  | p :: ps, acc => by
    rw [List.foldl_cons, join_go ps, List.flatMap_cons, Array.append_empty, Array.append_assoc]
    congr 1
    rw [← List.append_toArray]
theorem join_nil (ys : List Str) : Txt.join "" ys = ⟨(ys.flatMap fun z => z.cps.toList).toArray⟩ := by
  show (⟨(ys.drop 1).foldl (fun acc p => acc ++ (#[] : Array Nat) ++ p.cps) (ys.headD Str.empty).cps⟩ : Str) = _
  rw [join_go]
  cases ys with
  | nil => rfl
  | cons y ys =>
    show (⟨y.cps ++ (ys.flatMap fun z => z.cps.toList).toArray⟩ : Str) = _
    simp [List.flatMap_cons]
theorem join_g {bs : List Bool} (hl : bs.length ≤ 1000000) : joinSD "" [.lst (bs.map gD)] = some (.str (tx bs)) := by
  show ((strsOf (bs.map fun b => D.str (sg b))).bind fun ys => if (ys.map fun z => z.length).sum + ys.length * Str.length "" ≤ 1000000 then some (D.str (Txt.join "" ys)) else none) = _
  rw [strs_map]
  have e1 : ((bs.map sg).map fun z => z.length).sum = bs.length := by
    clear hl
    induction bs with
    | nil => rfl
    | cons b bs ih =>
      rw [List.map_cons, List.map_cons, List.sum_cons, ih, List.length_cons]
      show 1 + bs.length = _
      omega
  show (if ((bs.map sg).map fun z => z.length).sum + (bs.map sg).length * 0 ≤ 1000000 then some (D.str (Txt.join "" (bs.map sg))) else none) = _
  rw [e1, if_pos (by omega), join_nil]
  have e2 : ((bs.map sg).flatMap fun z => z.cps.toList) = bs.map cn := by
    clear hl e1
    induction bs with
    | nil => rfl
    | cons b bs ih => rw [List.map_cons, List.flatMap_cons, ih]; rfl
  rw [e2]; rfl
/-- one voice turned -/
def fl (bs : List Bool) (i : Nat) : List Bool := bs.set i (!(bs[i]?.getD true))
theorem fl_len (bs : List Bool) (i : Nat) : (fl bs i).length = bs.length := List.length_set
theorem fl_cut {bs : List Bool} {i : Nat} {b : Bool} (h : bs[i]? = some b) : bs.take i ++ ((!b) :: bs.drop (i + 1)) = fl bs i := by
  unfold fl
  rw [h]
  have hi := (List.getElem?_eq_some_iff.mp h).1
  rw [List.set_eq_take_append_cons_drop, if_pos hi]; rfl
end Dl
end
section
set_option Elab.async false
set_option linter.all false
set_option maxRecDepth 100000
set_option maxHeartbeats 4000000
namespace Dl
open PySem L2 PyProof.Rows
/-! where a row changes; the answers in plain Lean -/
/-- the changes after p -/
def jr : Bool → List Bool → List Bool
  | _, [] => []
  | p, b :: r => if b == p then jr b r else b :: jr b r
def hd (bs : List Bool) : Bool := bs.head?.getD true
def ls (bs : List Bool) : Bool := bs.getLast?.getD true
def jn : List Bool → List Bool
  | [] => []
  | b :: r => b :: jr b r
def chN : List Bool → Nat
  | [] => 0
  | b :: r => (jr b r).length
/-- changes come by turns -/
def alt : Bool → Nat → List Bool
  | _, 0 => []
  | p, n + 1 => (!p) :: alt (!p) n
theorem jr_alt : ∀ (r : List Bool) (p : Bool), jr p r = alt p (jr p r).length
  | [], _ => rfl
  | b :: r, p => by
    unfold jr
    by_cases e : b = p
    · subst e
      rw [if_pos (beq_self_eq_true b)]
      exact jr_alt r b
    · rw [if_neg (by simpa using e)]
      have eb : b = !p := by cases b <;> cases p <;> first | rfl | exact absurd rfl e
      rw [List.length_cons]
      show _ = (!p) :: alt (!p) _
      rw [← eb, ← jr_alt r b]
def isl (bs : List Bool) : Bool := (hd bs && decide (chN bs = 0)) || (!hd bs && decide (chN bs = 2))
theorem isl_jn : ∀ bs : List Bool, bs ≠ [] → (jn bs == [true] || jn bs == [false, true, false]) = isl bs
  | [], h => absurd rfl h
  | b :: r, _ => by
    show (b :: jr b r == [true] || b :: jr b r == [false, true, false]) = ((b && decide ((jr b r).length = 0)) || (!b && decide ((jr b r).length = 2)))
    rw [jr_alt r b]
    rw [← jr_alt r b]
    generalize hn : (jr b r).length = n
    have e : jr b r = alt b n := by rw [← hn]; exact jr_alt r b
    rw [e]
    match b, n with
    | true, 0 => rfl
    | false, 0 => rfl
    | true, 1 => rfl
    | false, 1 => rfl
    | true, 2 => rfl
    | false, 2 => rfl
    | true, n + 3 => simp [alt]
    | false, n + 3 => simp [alt]
theorem jn_len : ∀ bs : List Bool, (jn bs).length ≤ bs.length
  | [] => Nat.le_refl _
  | b :: r => by
    have h : ∀ (r : List Bool) (p : Bool), (jr p r).length ≤ r.length := fun r => by
      induction r with
      | nil => intro p; exact Nat.le_refl _
      | cons c r ih =>
        intro p
        unfold jr
        split
        · exact Nat.le_succ_of_le (ih c)
        · exact Nat.succ_le_succ (ih c)
    exact Nat.succ_le_succ (h r b)
/-- by places, over the whole row -/
theorem jr_zip (bs : List Bool) : ∀ (r pre : List Bool) (p : Bool), bs = pre ++ p :: r → ((r.zipIdx (pre.length + 1)).filter fun z => !(z.1 == (bs[z.2 - 1]?.getD true))).map (fun z => z.1) = jr p r
  | [], _, _, _ => rfl
  | b :: r, pre, p, h => by
    have e0 : bs[pre.length]? = some p := by rw [h]; simp
    have ih := jr_zip bs r (pre ++ [p]) b (by rw [h]; simp)
    rw [List.length_append] at ih
    rw [List.zipIdx_cons]
    unfold jr
    have e1 : (bs[pre.length + 1 - 1]?.getD true) = p := by rw [Nat.add_sub_cancel, e0]; rfl
    by_cases e : b = p
    · rw [if_pos (by rw [e]; exact beq_self_eq_true p), List.filter_cons_of_neg (by show ¬(!(b == (bs[pre.length + 1 - 1]?.getD true))) = true; rw [e1, e]; simp)]
      exact ih
    · rw [if_neg (by simpa using e), List.filter_cons_of_pos (by show (!(b == (bs[pre.length + 1 - 1]?.getD true))) = true; rw [e1]; simpa using e), List.map_cons]
      rw [show pre.length + 1 + 1 = pre.length + [p].length + 1 from rfl, ih]
theorem jn_zip : ∀ bs : List Bool, ((bs.zipIdx).filter fun z => decide (z.2 = 0) || !(z.1 == (bs[z.2 - 1]?.getD true))).map (fun z => z.1) = jn bs
  | [] => rfl
  | b :: r => by
    rw [List.zipIdx_cons, List.filter_cons_of_pos rfl, List.map_cons]
    have h := jr_zip (b :: r) r [] b rfl
    show b :: _ = b :: jr b r
    rw [← h]
    congr 2
    refine List.filter_congr fun z hz => ?_
    have := (List.mem_zipIdx hz).1
    rw [show decide (z.2 = 0) = false from decide_eq_false (by omega)]; rfl
theorem chN_ix : ∀ bs : List Bool, ((List.range (bs.length - 1)).filter fun i => !((bs[1 + i]?.getD true) == (bs[i]?.getD true))).length = chN bs
  | [] => rfl
  | b :: r => by
    have h := jr_zip (b :: r) r [] b rfl
    show _ = (jr b r).length
    rw [← h, List.length_map]
    show _ = ((r.zipIdx 1).filter _).length
    have e : (r.zipIdx 1) = (List.range r.length).map fun i => ((b :: r)[1 + i]?.getD true, 1 + i) := by
      apply List.ext_getElem?
      intro i
      rw [List.getElem?_zipIdx, List.getElem?_map]
      by_cases hi : i < r.length
      · rw [List.getElem?_range hi, List.getElem?_eq_getElem hi]
        show some (r[i], 1 + i) = some ((b :: r)[1 + i]?.getD true, 1 + i)
        rw [Nat.add_comm 1 i, List.getElem?_cons_succ, List.getElem?_eq_getElem hi]; rfl
      · rw [List.getElem?_eq_none (by omega), List.getElem?_eq_none (by rw [List.length_range]; omega)]; rfl
    rw [e, List.filter_map, List.length_map]
    show ((List.range r.length).filter _).length = _
    congr 1
    refine List.filter_congr fun i _ => ?_
    show _ = !(((b :: r)[1 + i]?.getD true) == ((b :: r)[1 + i - 1]?.getD true))
    rw [Nat.add_sub_cancel_left]
/-- most -/
def mo (bs : List Bool) (t : Bool) : Bool := if bs.count true = bs.count false then t else decide (bs.count false < bs.count true)
/-- the i-th way's answer -/
def an : Nat → List Bool → Bool
  | 0, bs => bs.contains true
  | 1, _ => true
  | 2, _ => false
  | 3, bs => hd bs && ls bs
  | 4, bs => !bs.contains false
  | 5, bs => hd bs
  | 6, bs => isl bs
  | 7, bs => ls bs
  | 8, bs => mo bs true
  | 9, bs => mo bs false
  | 10, bs => mo bs (hd bs)
  | 11, bs => mo bs (ls bs)
  | _, bs => decide (bs.count false % 2 = 0)
def wys : List Str := ["allow over", "always allow", "always deny", "both ends", "deny over", "first", "island", "last", "most or allow", "most or deny", "most or first", "most or last", "odd"]
def wy (i : Nat) : Str := wys.getD i "odd"
theorem ne_int {c d : Nat} (h : c ≠ d) : neD (.int c) (.int d) = some (.bl true) := by
  rw [neD_int, beq_eq_false_iff_ne.mpr (show (c : Int) ≠ d by omega)]; rfl
theorem ne_int_self (c : Int) : neD (.int c) (.int c) = some (.bl false) := by
  rw [neD_int, beq_self_eq_true]; rfl
theorem eq_int_self (c : Int) : eqD (.int c) (.int c) = some (.bl true) := by
  rw [eqD_int, beq_self_eq_true]
theorem eq_int_ne {c d : Int} (h : c ≠ d) : eqD (.int c) (.int d) = some (.bl false) := by
  rw [eqD_int, beq_eq_false_iff_ne.mpr h]
theorem gt_nat (c d : Nat) : gtD (.int c) (.int d) = some (.bl (decide (d < c))) := by
  show some (D.bl (decide ((d : Int) < c))) = _
  rw [show decide ((d : Int) < c) = decide (d < c) from decide_eq_decide.mpr (by omega)]
theorem mo_ne {bs : List Bool} (h : bs.count true ≠ bs.count false) (t : Bool) : mo bs t = decide (bs.count false < bs.count true) := if_neg h
theorem mo_eq {bs : List Bool} (h : bs.count true = bs.count false) (t : Bool) : mo bs t = t := if_pos h
theorem at_hd {bs : List Bool} (h : bs ≠ []) : atI bs 0 = some (hd bs) := by
  cases bs with
  | nil => exact absurd rfl h
  | cons b r => exact at_nat (b :: r) 0
theorem at_ls {bs : List Bool} (h : bs ≠ []) : atI bs (-1) = some (ls bs) := by
  rw [at_last bs h]
  unfold ls
  rw [List.getLast?_eq_some_getLast h]; rfl
theorem at_ls2 {bs : List Bool} (h : bs ≠ []) : atI bs ((bs.length : Int) - 1) = some (ls bs) := by
  have hp : 0 < bs.length := List.length_pos_iff.mpr h
  rw [show ((bs.length : Int) - 1) = ((bs.length - 1 : Nat) : Int) by omega, at_nat, ← List.getLast?_eq_getElem?]
  unfold ls
  rw [List.getLast?_eq_some_getLast h]; rfl
/-- all rows of a length -/
def rb : Nat → List (List Bool)
  | 0 => [[]]
  | n + 1 => (rb n).flatMap fun t => [t ++ [true], t ++ [false]]
theorem mem_rb : ∀ (n : Nat) (bs : List Bool), bs ∈ rb n ↔ bs.length = n
  | 0, bs => by
    show bs ∈ [[]] ↔ _
    rw [List.mem_singleton, List.length_eq_zero_iff]
  | n + 1, bs => by
    show bs ∈ (rb n).flatMap _ ↔ _
    rw [List.mem_flatMap]
    constructor
    · rintro ⟨t, ht, h⟩
      have hl := (mem_rb n t).mp ht
      rcases List.mem_cons.mp h with rfl | h
      · rw [List.length_append, hl]; rfl
      · rw [List.mem_singleton] at h
        rw [h, List.length_append, hl]; rfl
    · intro hl
      have h0 : bs ≠ [] := fun e => by rw [e] at hl; cases hl
      refine ⟨bs.dropLast, (mem_rb n _).mpr (by rw [List.length_dropLast, hl]; rfl), ?_⟩
      have e := List.dropLast_concat_getLast h0
      cases q : bs.getLast h0 with
      | true => rw [q] at e; rw [e]; exact List.mem_cons_self
      | false => rw [q] at e; rw [e]; exact List.mem_cons_of_mem _ List.mem_cons_self
theorem rb_len : ∀ n : Nat, (rb n).length = 2 ^ n
  | 0 => rfl
  | n + 1 => by
    have key : ∀ l : List (List Bool), (l.flatMap fun t => [t ++ [true], t ++ [false]]).length = 2 * l.length := fun l => by
      induction l with
      | nil => rfl
      | cons x l ih =>
        rw [List.flatMap_cons, List.length_append, ih, List.length_cons (as := l)]
        show 2 + 2 * l.length = 2 * (l.length + 1)
        omega
    show ((rb n).flatMap _).length = _
    rw [key, rb_len n, Nat.pow_succ]; omega
theorem cn_list_inj : ∀ a b : List Bool, a.map cn = b.map cn → a = b
  | [], [], _ => rfl
  | [], _ :: _, h => by cases h
  | _ :: _, [], h => by cases h
  | x :: a, y :: b, h => by
    rw [List.map_cons, List.map_cons] at h
    injection h with h1 h2
    rw [(cn_inj x y).mp h1, cn_list_inj a b h2]
theorem tx_inj {a b : List Bool} (h : tx a = tx b) : a = b := by
  have e : (tx a).cps.toList = (tx b).cps.toList := by rw [h]
  exact cn_list_inj a b e
theorem look_map {α : Type} {key : α → Str} {val : α → D} (hk : ∀ x y, key x = key y → x = y) {y : α} : ∀ {ys : List α}, y ∈ ys → lookD (ys.map fun z => (key z, val z)) (key y) = some (val y)
  | x :: ys, h => by
    unfold lookD
    rw [List.map_cons, List.find?_cons]
    by_cases e : key x = key y
    · rw [decide_eq_true e]
      rw [hk x y e]; rfl
    · rw [decide_eq_false e]
      rcases List.mem_cons.mp h with rfl | h
      · exact absurd rfl e
      · exact look_map hk h
theorem put_new {es : List (Str × D)} {k : Str} {v : D} (h : ∀ z ∈ es, z.1 ≠ k) : putD es k v = es ++ [(k, v)] := by
  unfold putD
  rw [if_neg]
  intro q
  obtain ⟨z, hz, e⟩ := List.any_eq_true.mp q
  exact h z hz (of_decide_eq_true e)
theorem rb_nodup : ∀ n : Nat, n < 9 → (rb n).Nodup := by decide +kernel
end Dl
end
section
set_option Elab.async false
set_option linter.all false
set_option maxRecDepth 100000
set_option maxHeartbeats 4000000
namespace Dl
open PySem L2 PyProof.Rows
/-! owned things, plain -/
section
variable {ρ : List Sl} {s s1 s2 : Tau} {x y z : D} {da db : Dn} {ax ar : Da} {b : Bool} {bt : Dt}
theorem own_of {i : Nat} (h1 : da ρ s = some (x, s1)) : dOwn da i ρ s = some (.nx (ρ.set i (.ow x)), s1) := by
  unfold dOwn
  rw [h1]; rfl
theorem frz_of {i : Nat} {b : Ds} {r : Option (Rs × Tau)} (h1 : ρ[i]? = some (.ow x)) (h2 : b (ρ.set i (.im x)) s = r) : dFrz i b ρ s = r := by
  unfold dFrz
  rw [h1]; exact h2
theorem sN_ {a b : Ds} {ρ1 : List Sl} {r : Option (Rs × Tau)} (h : a ρ s = some (.nx ρ1, s1)) (h2 : b ρ1 s1 = r) : dSeq a b ρ s = r := seq_nx h h2
end
end Dl
end
section
set_option Elab.async false
set_option linter.all false
set_option maxRecDepth 100000
set_option maxHeartbeats 4000000
namespace Dl
open PySem L2 PyProof.Rows
/-! mirrors: rows backwards, rows turned -/
theorem hd_rev (bs : List Bool) : hd bs.reverse = ls bs := by
  unfold hd ls
  rw [List.head?_reverse]
theorem ls_rev (bs : List Bool) : ls bs.reverse = hd bs := by
  unfold hd ls
  rw [List.getLast?_reverse]
theorem jr_app : ∀ (r : List Bool) (p b : Bool), (jr p (r ++ [b])).length = (jr p r).length + (if b == ((p :: r).getLast?.getD true) then 0 else 1)
  | [], p, b => by
    show (jr p [b]).length = 0 + (if b == p then 0 else 1)
    unfold jr
    by_cases e : b = p
    · rw [if_pos (beq_iff_eq.mpr e), if_pos (beq_iff_eq.mpr e)]; rfl
    · rw [if_neg (by simpa using e), if_neg (by simpa using e)]; rfl
  | c :: r, p, b => by
    have ih := jr_app r c b
    have e1 : (p :: c :: r).getLast? = (c :: r).getLast? := rfl
    rw [e1]
    show (jr p (c :: (r ++ [b]))).length = _
    unfold jr
    by_cases e : c = p
    · rw [if_pos (beq_iff_eq.mpr e), if_pos (beq_iff_eq.mpr e)]
      exact ih
    · rw [if_neg (by simpa using e), if_neg (by simpa using e), List.length_cons, List.length_cons, ih]
      omega
theorem jr_cons (p b : Bool) (r : List Bool) : jr p (b :: r) = if (b == p) = true then jr b r else b :: jr b r := by rw [jr]
theorem chN_app (bs : List Bool) (b : Bool) (h : bs ≠ []) : chN (bs ++ [b]) = chN bs + (if b == ls bs then 0 else 1) := by
  cases bs with
  | nil => exact absurd rfl h
  | cons p r => exact jr_app r p b
theorem chN_cons (b : Bool) (r : List Bool) (h : r ≠ []) : chN (b :: r) = chN r + (if hd r == b then 0 else 1) := by
  cases r with
  | nil => exact absurd rfl h
  | cons c r =>
    show (jr b (c :: r)).length = (jr c r).length + (if c == b then 0 else 1)
    rw [jr_cons]
    by_cases e : c = b
    · subst e
      rw [if_pos (beq_self_eq_true c), if_pos (beq_self_eq_true c)]; rfl
    · rw [if_neg (by simpa using e), if_neg (by simpa using e)]; rfl
theorem chN_rev : ∀ bs : List Bool, chN bs.reverse = chN bs
  | [] => rfl
  | [b] => rfl
  | b :: c :: r => by
    have h : (c :: r).reverse ≠ [] := by simp
    rw [List.reverse_cons, chN_app _ _ h, chN_rev (c :: r), chN_cons b (c :: r) (by simp), ls_rev]
    rw [show (b == hd (c :: r)) = (hd (c :: r) == b) from BEq.comm]
theorem ls_par : ∀ (r : List Bool) (b : Bool), ls (b :: r) = (b ^^ decide ((jr b r).length % 2 = 1))
  | [], b => by cases b <;> rfl
  | c :: r, b => by
    have e1 : ls (b :: c :: r) = ls (c :: r) := rfl
    rw [e1, ls_par r c]
    rw [jr_cons]
    by_cases e : c = b
    · subst e
      rw [if_pos (beq_self_eq_true c)]
    · rw [if_neg (by simpa using e), List.length_cons]
      have ec : c = !b := by cases b <;> cases c <;> first | rfl | exact absurd rfl e
      rw [ec]
      generalize (jr (!b) r).length = n
      by_cases z : n % 2 = 1
      · rw [decide_eq_true z, decide_eq_false (show ¬(n + 1) % 2 = 1 by omega)]
        cases b <;> rfl
      · rw [decide_eq_false z, decide_eq_true (show (n + 1) % 2 = 1 by omega)]
        cases b <;> rfl
theorem isl_rev (bs : List Bool) (h : bs ≠ []) : isl bs.reverse = isl bs := by
  unfold isl
  rw [chN_rev, hd_rev]
  cases bs with
  | nil => exact absurd rfl h
  | cons b r =>
    have e := ls_par r b
    rw [e]
    show ((b ^^ decide ((jr b r).length % 2 = 1)) && decide ((jr b r).length = 0) || !(b ^^ decide ((jr b r).length % 2 = 1)) && decide ((jr b r).length = 2)) = (b && decide ((jr b r).length = 0) || !b && decide ((jr b r).length = 2))
    generalize (jr b r).length = n
    by_cases z : n = 0
    · subst z; cases b <;> rfl
    · by_cases z2 : n = 2
      · subst z2; cases b <;> rfl
      · rw [decide_eq_false z, decide_eq_false z2]; simp
theorem has_rev (b : Bool) (bs : List Bool) : bs.reverse.contains b = bs.contains b := by
  rw [List.contains_eq_mem, List.contains_eq_mem]
  exact decide_eq_decide.mpr List.mem_reverse
theorem mo_rev (bs : List Bool) (t : Bool) : mo bs.reverse t = mo bs t := by
  unfold mo
  rw [List.count_reverse, List.count_reverse]
def bk : Nat → Nat
  | 5 => 7 | 7 => 5 | 10 => 11 | 11 => 10 | i => i
theorem an_rev {bs : List Bool} (h : bs ≠ []) : ∀ i : Nat, i < 13 → an (bk i) bs.reverse = an i bs
  | 0, _ => has_rev true bs
  | 1, _ => rfl
  | 2, _ => rfl
  | 3, _ => by
    show (hd bs.reverse && ls bs.reverse) = (hd bs && ls bs)
    rw [hd_rev, ls_rev, Bool.and_comm]
  | 4, _ => congrArg (!·) (has_rev false bs)
  | 5, _ => ls_rev bs
  | 6, _ => isl_rev bs h
  | 7, _ => hd_rev bs
  | 8, _ => mo_rev bs true
  | 9, _ => mo_rev bs false
  | 10, _ => by
    show mo bs.reverse (ls bs.reverse) = mo bs (hd bs)
    rw [mo_rev, ls_rev]
  | 11, _ => by
    show mo bs.reverse (hd bs.reverse) = mo bs (ls bs)
    rw [mo_rev, hd_rev]
  | 12, _ => by
    show decide (bs.reverse.count false % 2 = 0) = _
    rw [List.count_reverse]; rfl
  | n + 13, h => absurd h (by omega)
def mir : Nat → Option Nat
  | 0 => some 4 | 4 => some 0 | 1 => some 2 | 2 => some 1 | 8 => some 9 | 9 => some 8 | 5 => some 5 | 7 => some 7 | 10 => some 10 | 11 => some 11 | _ => none
theorem has_not (b : Bool) : ∀ bs : List Bool, (bs.map not).contains b = bs.contains (!b)
  | [] => rfl
  | c :: bs => by
    rw [List.map_cons, List.contains_cons, List.contains_cons, has_not b bs]
    cases b <;> cases c <;> rfl
theorem cnt_not (b : Bool) : ∀ bs : List Bool, (bs.map not).count b = bs.count (!b)
  | [] => rfl
  | c :: bs => by
    rw [List.map_cons, List.count_cons, List.count_cons, cnt_not b bs]
    cases b <;> cases c <;> rfl
theorem hd_not {bs : List Bool} (h : bs ≠ []) : hd (bs.map not) = !hd bs := by
  cases bs with
  | nil => exact absurd rfl h
  | cons b r => rfl
theorem ls_not {bs : List Bool} (h : bs ≠ []) : ls (bs.map not) = !ls bs := by
  unfold ls
  rw [List.getLast?_map, List.getLast?_eq_some_getLast h]; rfl
theorem mo_not (bs : List Bool) (t : Bool) : mo (bs.map not) (!t) = !mo bs t := by
  unfold mo
  rw [cnt_not, cnt_not]
  show (if bs.count false = bs.count true then _ else decide (bs.count true < bs.count false)) = _
  by_cases z : bs.count true = bs.count false
  · rw [if_pos z, if_pos z.symm]
  · rw [if_neg z, if_neg fun q => z q.symm]
    by_cases q : bs.count true < bs.count false
    · rw [decide_eq_true q, decide_eq_false (show ¬ bs.count false < bs.count true by omega)]; rfl
    · rw [decide_eq_false q, decide_eq_true (show bs.count false < bs.count true by omega)]; rfl
theorem an_mir {bs : List Bool} (h : bs ≠ []) : ∀ i j : Nat, mir i = some j → an j (bs.map not) = !an i bs := fun i j e => by
  unfold mir at e
  split at e
  · cases e
    show (!(bs.map not).contains false) = !bs.contains true
    rw [has_not]; rfl
  · cases e
    show (bs.map not).contains true = !(!bs.contains false)
    rw [has_not, Bool.not_not]; rfl
  · cases e; rfl
  · cases e; rfl
  · cases e; exact mo_not bs true
  · cases e; exact mo_not bs false
  · cases e; exact hd_not h
  · cases e; exact ls_not h
  · cases e
    show mo (bs.map not) (hd (bs.map not)) = !mo bs (hd bs)
    rw [hd_not h]; exact mo_not bs _
  · cases e
    show mo (bs.map not) (ls (bs.map not)) = !mo bs (ls bs)
    rw [ls_not h]; exact mo_not bs _
  · cases e
theorem fl_not (bs : List Bool) (j : Nat) (hj : j < bs.length) : fl (bs.map not) j = (fl bs j).map not := by
  unfold fl
  rw [List.map_set, List.getElem?_map, List.getElem?_eq_getElem hj]; rfl
theorem fl_rev (bs : List Bool) (j : Nat) (hj : j < bs.length) : fl bs.reverse j = (fl bs (bs.length - 1 - j)).reverse := by
  unfold fl
  rw [List.getElem?_reverse hj, List.getElem?_eq_getElem (by omega)]
  apply List.ext_getElem?
  intro k
  by_cases hk : k < bs.length
  · rw [List.getElem?_reverse (by rw [List.length_set]; exact hk), List.length_set, List.getElem?_set, List.getElem?_set, List.length_reverse]
    by_cases e : j = k
    · subst e
      rw [if_pos rfl, if_pos hj, if_pos rfl, if_pos (by omega)]
    · rw [if_neg e, if_neg (by omega), List.getElem?_reverse hk]
  · rw [List.getElem?_eq_none (by rw [List.length_set, List.length_reverse]; omega), List.getElem?_eq_none (by rw [List.length_reverse, List.length_set]; omega)]
end Dl
end
section
set_option Elab.async false
set_option linter.all false
set_option maxRecDepth 100000
set_option maxHeartbeats 4000000
namespace Dl
open PySem L2 PyProof.Rows
/-! sums over ranges -/
def Sm1 (n : Nat) (f : Nat → Nat) : Nat := ((List.range n).map f).sum
theorem sm_succ (n : Nat) (f : Nat → Nat) : Sm1 (n + 1) f = Sm1 n f + f n := by
  unfold Sm1
  rw [List.range_succ, List.map_append, List.sum_append]
  show _ + (f n + 0) = _
  rw [Nat.add_zero]
theorem sm_congr : ∀ (n : Nat) {f g : Nat → Nat}, (∀ i, i < n → f i = g i) → Sm1 n f = Sm1 n g
  | 0, _, _, _ => rfl
  | n + 1, f, g, h => by rw [sm_succ, sm_succ, sm_congr n fun i hi => h i (by omega), h n (by omega)]
theorem sm_zero (n : Nat) {f : Nat → Nat} (h : ∀ i, i < n → f i = 0) : Sm1 n f = 0 := by
  induction n with
  | zero => rfl
  | succ n ih => rw [sm_succ, ih fun i hi => h i (by omega), h n (by omega)]
theorem sm_add : ∀ (n : Nat) (f g : Nat → Nat), Sm1 n (fun i => f i + g i) = Sm1 n f + Sm1 n g
  | 0, _, _ => rfl
  | n + 1, f, g => by rw [sm_succ, sm_succ, sm_succ, sm_add n f g]; omega
theorem sm_swap : ∀ (n m : Nat) (h : Nat → Nat → Nat), Sm1 n (fun i => Sm1 m fun j => h i j) = Sm1 m fun j => Sm1 n fun i => h i j
  | 0, m, h => (sm_zero m fun _ _ => rfl).symm
  | n + 1, m, h => by
    rw [sm_succ, sm_swap n m h, ← sm_add]
    exact sm_congr m fun j _ => (sm_succ n fun i => h i j).symm
theorem sm_rev (n : Nat) (f : Nat → Nat) : Sm1 n (fun i => f (n - 1 - i)) = Sm1 n f := by
  unfold Sm1
  have e := PySem.W.krv_range n
  have e2 : (List.range n).map (fun i => f (n - 1 - i)) = ((List.range n).map fun k => n - 1 - k).map f := by rw [List.map_map]; rfl
  rw [e2, e, List.map_reverse, List.sum_reverse]
theorem sm_win : ∀ (n a b : Nat) (f : Nat → Nat), b ≤ n → Sm1 (b - a) (fun k => f (a + k)) = Sm1 n fun r => if a ≤ r ∧ r < b then f r else 0
  | 0, a, b, f, h => by
    have : b - a = 0 := by omega
    rw [this]; rfl
  | n + 1, a, b, f, h => by
    rw [sm_succ]
    by_cases hb : b ≤ n
    · rw [if_neg (by omega), Nat.add_zero]
      exact sm_win n a b f hb
    · have eb : b = n + 1 := by omega
      subst eb
      by_cases ha : a ≤ n
      · rw [if_pos (by omega), show n + 1 - a = (n - a) + 1 by omega, sm_succ, sm_win n a n f (Nat.le_refl _), show a + (n - a) = n by omega]
        congr 1
        exact sm_congr n fun i hi => by
          by_cases z : a ≤ i
          · rw [if_pos ⟨z, hi⟩, if_pos ⟨z, by omega⟩]
          · rw [if_neg fun q => z q.1, if_neg fun q => z q.1]
      · rw [if_neg (by omega), show n + 1 - a = 0 by omega]
        exact (sm_zero n fun i hi => if_neg (by omega)).symm
/-- an island of voices that stays one when the voice at p turns -/
def st (L l r p : Nat) : Bool := if p + 1 = l ∨ p = r + 1 then decide (1 ≤ min l p) && (decide (min l p ≤ max r p) && decide (max r p + 2 ≤ L)) else decide (l < r) && (p == l || p == r)
/-- one island told for p -/
def o1 (L p l r : Nat) : Nat := if st L l r p = true then 0 else 2
/-- what all islands tell -/
def isP (L p : Nat) : Nat := 2 + Sm1 (L - 2) fun i => Sm1 (L - 1 - (1 + i)) fun k => o1 L p (1 + i) (1 + i + k)
theorem isP_full (L p : Nat) (hL : 2 ≤ L) : isP L p = 2 + Sm1 L fun l => Sm1 L fun r => if 1 ≤ l ∧ l ≤ r ∧ r + 1 < L then o1 L p l r else 0 := by
  unfold isP
  congr 1
  have e1 := sm_win L 1 (L - 1) (fun l => Sm1 (L - 1 - l) fun k => o1 L p l (l + k)) (by omega)
  rw [show L - 1 - 1 = L - 2 by omega] at e1
  rw [e1]
  refine sm_congr L fun l _ => ?_
  by_cases h : 1 ≤ l ∧ l < L - 1
  · rw [if_pos h]
    rw [sm_win L l (L - 1) (fun r => o1 L p l r) (by omega)]
    refine sm_congr L fun r _ => ?_
    by_cases z : l ≤ r ∧ r < L - 1
    · rw [if_pos z, if_pos ⟨h.1, z.1, by omega⟩]
    · rw [if_neg z, if_neg fun q => z ⟨q.2.1, by omega⟩]
  · rw [if_neg h]
    exact (sm_zero L fun r hr => if_neg fun q => h ⟨q.1, by omega⟩).symm
theorem st_sym (L l r p : Nat) (h1 : 1 ≤ l) (h2 : l ≤ r) (h3 : r + 1 < L) (hp : p < L) : st L (L - 1 - r) (L - 1 - l) (L - 1 - p) = st L l r p := by
  unfold st
  by_cases a : p + 1 = l
  · have c1 : (L - 1 - p + 1 = L - 1 - r ∨ L - 1 - p = L - 1 - l + 1) := .inr (by omega)
    rw [if_pos c1, if_pos (.inl a)]
    have e1 : min (L - 1 - r) (L - 1 - p) = L - 1 - r := by omega
    have e2 : max (L - 1 - l) (L - 1 - p) = L - 1 - p := by omega
    have e3 : min l p = p := by omega
    have e4 : max r p = r := by omega
    rw [e1, e2, e3, e4]
    rw [decide_eq_true (show 1 ≤ L - 1 - r by omega), decide_eq_true (show L - 1 - r ≤ L - 1 - p by omega), decide_eq_true (show p ≤ r by omega), decide_eq_true (show r + 2 ≤ L by omega)]
    simp only [Bool.true_and, Bool.and_true]
    exact decide_eq_decide.mpr (by omega)
  · by_cases b : p = r + 1
    · have c1 : (L - 1 - p + 1 = L - 1 - r ∨ L - 1 - p = L - 1 - l + 1) := .inl (by omega)
      rw [if_pos c1, if_pos (.inr b)]
      have e1 : min (L - 1 - r) (L - 1 - p) = L - 1 - p := by omega
      have e2 : max (L - 1 - l) (L - 1 - p) = L - 1 - l := by omega
      have e3 : min l p = l := by omega
      have e4 : max r p = p := by omega
      rw [e1, e2, e3, e4]
      rw [decide_eq_true (show L - 1 - p ≤ L - 1 - l by omega), decide_eq_true (show L - 1 - l + 2 ≤ L by omega), decide_eq_true (show 1 ≤ l by omega), decide_eq_true (show l ≤ p by omega)]
      simp only [Bool.true_and, Bool.and_true]
      exact decide_eq_decide.mpr (by omega)
    · rw [if_neg (by omega), if_neg (by omega)]
      have e1 : decide (L - 1 - r < L - 1 - l) = decide (l < r) := decide_eq_decide.mpr (by omega)
      have e2 : (L - 1 - p == L - 1 - r) = (p == r) := by
        by_cases z : p = r
        · rw [z, beq_self_eq_true, beq_self_eq_true]
        · rw [beq_eq_false_iff_ne.mpr z, beq_eq_false_iff_ne.mpr (by omega)]
      have e3 : (L - 1 - p == L - 1 - l) = (p == l) := by
        by_cases z : p = l
        · rw [z, beq_self_eq_true, beq_self_eq_true]
        · rw [beq_eq_false_iff_ne.mpr z, beq_eq_false_iff_ne.mpr (by omega)]
      rw [e1, e2, e3, Bool.or_comm]
theorem isP_sym (L p : Nat) (hL : 2 ≤ L) (hp : p < L) : isP L (L - 1 - p) = isP L p := by
  rw [isP_full L _ hL, isP_full L _ hL]
  congr 1
  have e1 : Sm1 L (fun l => Sm1 L fun r => if 1 ≤ l ∧ l ≤ r ∧ r + 1 < L then o1 L p l r else 0) = Sm1 L fun l => Sm1 L fun r => if 1 ≤ L - 1 - r ∧ L - 1 - r ≤ L - 1 - l ∧ L - 1 - l + 1 < L then o1 L (L - 1 - p) (L - 1 - r) (L - 1 - l) else 0 := by
    refine sm_congr L fun l hl => sm_congr L fun r hr => ?_
    by_cases h : 1 ≤ l ∧ l ≤ r ∧ r + 1 < L
    · rw [if_pos h, if_pos (by omega)]
      unfold o1
      rw [st_sym L l r p h.1 h.2.1 h.2.2 hp]
    · rw [if_neg h, if_neg (by omega)]
  rw [e1]
  rw [sm_rev L fun l => Sm1 L fun r => if 1 ≤ L - 1 - r ∧ L - 1 - r ≤ l ∧ l + 1 < L then o1 L (L - 1 - p) (L - 1 - r) l else 0]
  rw [sm_swap]
  exact sm_congr L fun j _ => (sm_rev L fun i => if 1 ≤ i ∧ i ≤ j ∧ j + 1 < L then o1 L (L - 1 - p) i j else 0).symm
end Dl
end
section
set_option Elab.async false
set_option linter.all false
set_option maxRecDepth 100000
set_option maxHeartbeats 4000000
open PySem L2 Dl
namespace Rk11
def c_ALLOW : D := .str "allow"
def c_DENY : D := .str "deny"
def l_VOICES : List Str := ["allow", "deny"]
def c_VOICES : D := .ktp (l_VOICES.map D.str)
def c_MOST_ROW : D := .int 12
def l_WAYS : List Str := ["allow over", "always allow", "always deny", "both ends", "deny over", "first", "island", "last", "most or allow", "most or deny", "most or first", "most or last", "odd"]
def c_WAYS : D := .ktp (l_WAYS.map D.str)
def c_MOST_LENGTH : D := .int 60
def l_PROMISES : List Str := ["agreed", "even", "growing", "heard", "kept", "mixed", "most", "order", "parts", "repeat"]
def c_PROMISES : D := .ktp (l_PROMISES.map D.str)
def l_KEPT : List (Str × List Str) := [("allow over", ["agreed", "growing", "heard", "kept", "order", "parts", "repeat"]), ("always allow", ["growing", "kept", "order", "parts", "repeat"]), ("always deny", ["growing", "kept", "order", "parts", "repeat"]), ("both ends", ["agreed", "growing", "kept", "mixed", "repeat"]), ("deny over", ["agreed", "growing", "heard", "kept", "order", "parts", "repeat"]), ("first", ["agreed", "even", "growing", "kept", "mixed", "parts", "repeat"]), ("island", ["agreed", "heard", "mixed", "repeat"]), ("last", ["agreed", "even", "growing", "kept", "mixed", "parts", "repeat"]), ("most or allow", ["agreed", "growing", "heard", "kept", "mixed", "most", "order"]), ("most or deny", ["agreed", "growing", "heard", "kept", "mixed", "most", "order"]), ("most or first", ["agreed", "even", "growing", "kept", "mixed", "most"]), ("most or last", ["agreed", "even", "growing", "kept", "mixed", "most"]), ("odd", ["heard", "mixed", "order", "parts"])]
def d_is_voice : Ds := (dRet (dAndV (dUn (isiD "str") (dVar 0)) (dOp inD (dVar 0) (dC c_VOICES))))
def f_is_voice : Fn := fnD 1 d_is_voice
def d_is_in : Ds := (dRet (dAndV (dUn (isiD "int") (dVar 0)) (dAndV (dNotV (dUn (isiD "bool") (dVar 0))) (dChain leD leD (dVar 1) (dVar 0) (dVar 2)))))
def f_is_in : Fn := fnD 3 d_is_in
def d_need_number : Ds := (dIfS (dNot (dB (dCall f_is_in (dCons (dVar 0) (dCons (dVar 1) (dCons (dVar 2) dNil)))))) dNever dNext)
def f_need_number : Fn := fnD 3 d_need_number
def d_need_row : Ds := (dSeq (dIfS (dOr (dNot (dB (dUn (isiD "tuple") (dVar 0)))) (dNot (dB (dChain leD leD (dC (.int 1)) (dCallB lenD (dCons (dVar 0) dNil)) (dC c_MOST_ROW))))) dNever dNext)
  (dFor (dRng1 (dCons (dCallB lenD (dCons (dVar 0) dNil)) dNil)) (gdName 1) (dIfS (dNot (dB (dCall f_is_voice (dCons (dOp ixD (dVar 0) (dVar 1)) dNil)))) dNever dNext)))
def f_need_row : Fn := fnD 2 d_need_row
def d_turned : Ds := (dRet (dIf (dB (dOp eqD (dVar 0) (dC c_ALLOW))) (dC c_DENY) (dC c_ALLOW)))
def f_turned : Fn := fnD 1 d_turned
def d_turned_at : Ds := (dRet (dTup (dStar (dSl slD (dVar 0) dNone (dSome (dVar 1))) (dCons (dCall f_turned (dCons (dOp ixD (dVar 0) (dVar 1)) dNil)) (dStar (dSl slD (dVar 0) (dSome (dOp addD (dVar 1) (dC (.int 1)))) dNone) dNil)))))
def f_turned_at : Fn := fnD 2 d_turned_at
def d_need_way : Ds := (dIfS (dOr (dNot (dB (dUn (isiD "str") (dVar 0)))) (dB (dOp ninD (dVar 0) (dC c_WAYS)))) dNever dNext)
def f_need_way : Fn := fnD 1 d_need_way
def d_joined : Ds := (dRet (dCallB tupleD (dCons (dLc (dEnT (dCons (dVar 0) dNil)) (gdTup 2 (gdCons (gdName 1) (gdCons (gdName 2) gdNil))) (dOr (dB (dOp eqD (dVar 1) (dC (.int 0)))) (dB (dOp neD (dVar 2) (dOp ixD (dVar 0) (dOp subD (dVar 1) (dC (.int 1))))))) (dVar 2) [1, 2]) dNil)))
def f_joined : Fn := fnD 3 d_joined
def d_said : Ds := (dRet (dIf (dB (dVar 0)) (dC c_ALLOW) (dC c_DENY)))
def f_said : Fn := fnD 1 d_said
def d_most_of : Ds := (dSeq (dPar 2 3 (dCons (dOp countD (dVar 1) (dC c_ALLOW)) (dCons (dOp countD (dVar 1) (dC c_DENY)) dNil)))
  (dSeq (dIfS (dB (dOp neD (dVar 2) (dVar 3))) (dRet (dCall f_said (dCons (dOp gtD (dVar 2) (dVar 3)) dNil))) dNext)
  (dSeq (dIfS (dB (dOp inD (dVar 0) (dTup (dCons (dC (.str "most or first")) (dCons (dC (.str "most or last")) dNil))))) (dRet (dIf (dB (dOp eqD (dVar 0) (dC (.str "most or first")))) (dOp ixD (dVar 1) (dC (.int 0))) (dOp ixD (dVar 1) (dUn negD (dC (.int 1)))))) dNext)
  (dRet (dIf (dB (dOp eqD (dVar 0) (dC (.str "most or allow")))) (dC c_ALLOW) (dC c_DENY))))))
def f_most_of : Fn := fnD 4 d_most_of
def d_answer_of : Ds := (dSeq (dIfS (dB (dOp eqD (dSl slD (dVar 0) dNone (dSome (dC (.int 4)))) (dC (.str "most")))) (dRet (dCall f_most_of (dCons (dVar 0) (dCons (dVar 1) dNil)))) dNext)
  (dSeq (dIfS (dB (dOp inD (dVar 0) (dTup (dCons (dC (.str "first")) (dCons (dC (.str "last")) dNil))))) (dRet (dIf (dB (dOp eqD (dVar 0) (dC (.str "first")))) (dOp ixD (dVar 1) (dC (.int 0))) (dOp ixD (dVar 1) (dUn negD (dC (.int 1)))))) dNext)
  (dSeq (dIfS (dB (dOp inD (dVar 0) (dTup (dCons (dC (.str "allow over")) (dCons (dC (.str "deny over")) dNil))))) (dRet (dCall f_said (dCons (dIf (dB (dOp eqD (dVar 0) (dC (.str "allow over")))) (dOp inD (dC c_ALLOW) (dVar 1)) (dOp ninD (dC c_DENY) (dVar 1))) dNil))) dNext)
  (dSeq (dIfS (dB (dOp eqD (dVar 0) (dC (.str "odd")))) (dRet (dCall f_said (dCons (dOp eqD (dOp modD (dOp countD (dVar 1) (dC c_DENY)) (dC (.int 2))) (dC (.int 0))) dNil))) dNext)
  (dSeq (dIfS (dB (dOp eqD (dVar 0) (dC (.str "both ends")))) (dRet (dCall f_said (dCons (dAndV (dOp eqD (dOp ixD (dVar 1) (dC (.int 0))) (dC c_ALLOW)) (dOp eqD (dOp ixD (dVar 1) (dUn negD (dC (.int 1)))) (dC c_ALLOW))) dNil))) dNext)
  (dSeq (dIfS (dB (dOp eqD (dVar 0) (dC (.str "island")))) (dRet (dCall f_said (dCons (dOp inD (dCall f_joined (dCons (dVar 1) dNil)) (dTup (dCons (dTup (dCons (dC c_ALLOW) dNil)) (dCons (dTup (dCons (dC c_DENY) (dCons (dC c_ALLOW) (dCons (dC c_DENY) dNil)))) dNil)))) dNil))) dNext)
  (dRet (dCall f_said (dCons (dOp eqD (dVar 0) (dC (.str "always allow"))) dNil)))))))))
def f_answer_of : Fn := fnD 2 d_answer_of
def d_need_both : Ds := (dSeq (dDrop (dCall f_need_way (dCons (dVar 0) dNil)))
  (dDrop (dCall f_need_row (dCons (dVar 1) dNil))))
def f_need_both : Fn := fnD 2 d_need_both
def d_answer : Ds := (dSeq (dDrop (dCall f_need_both (dCons (dVar 0) (dCons (dVar 1) dNil))))
  (dRet (dCall f_answer_of (dCons (dVar 0) (dCons (dVar 1) dNil)))))
def f_answer : Fn := fnD 2 d_answer
def d_matters : Ds := (dSeq (dDrop (dCall f_need_both (dCons (dVar 0) (dCons (dVar 1) dNil))))
  (dSeq (dAsg (dCall f_answer_of (dCons (dVar 0) (dCons (dVar 1) dNil))) (gdName 2))
  (dRet (dCallB tupleD (dCons (dLc (dRng1 (dCons (dCallB lenD (dCons (dVar 1) dNil)) dNil)) (gdName 3) (dB (dOp neD (dCall f_answer_of (dCons (dVar 0) (dCons (dCall f_turned_at (dCons (dVar 1) (dCons (dVar 3) dNil))) dNil))) (dVar 2))) (dVar 3) [3]) dNil)))))
def f_matters : Fn := fnD 4 d_matters
def d_choose : Ds := (dSeq (dIfS (dNot (dB (dChain leD leD (dC (.int 0)) (dVar 1) (dVar 0)))) (dRet (dC (.int 0))) dNext)
  (dSeq (dAsg (dC (.int 1)) (gdName 2))
  (dSeq (dFor (dRng1 (dCons (dVar 1) dNil)) (gdName 3) (dAsg (dOp fdivD (dOp mulD (dVar 2) (dOp subD (dVar 0) (dVar 3))) (dOp addD (dVar 3) (dC (.int 1)))) (gdName 2)))
  (dRet (dVar 2)))))
def f_choose : Fn := fnD 4 d_choose
def d_most_allowed : Ds := (dSeq (dAsg (dOp shlD (dC (.int 1)) (dOp subD (dVar 1) (dC (.int 1)))) (gdName 2))
  (dSeq (dIfS (dOr (dB (dOp eqD (dOp modD (dVar 1) (dC (.int 2))) (dC (.int 1)))) (dB (dOp inD (dVar 0) (dTup (dCons (dC (.str "most or first")) (dCons (dC (.str "most or last")) dNil)))))) (dRet (dVar 2)) dNext)
  (dSeq (dAsg (dOp fdivD (dCall f_choose (dCons (dVar 1) (dCons (dOp fdivD (dVar 1) (dC (.int 2))) dNil))) (dC (.int 2))) (gdName 3))
  (dRet (dIf (dB (dOp eqD (dVar 0) (dC (.str "most or allow")))) (dOp addD (dVar 2) (dVar 3)) (dOp subD (dVar 2) (dVar 3)))))))
def f_most_allowed : Fn := fnD 4 d_most_allowed
def d_allowed : Ds := (dSeq (dAsg (dOp shlD (dC (.int 1)) (dVar 1)) (gdName 2))
  (dSeq (dIfS (dB (dOp eqD (dSl slD (dVar 0) dNone (dSome (dC (.int 4)))) (dC (.str "most")))) (dRet (dCall f_most_allowed (dCons (dVar 0) (dCons (dVar 1) dNil)))) dNext)
  (dSeq (dIfS (dB (dOp inD (dVar 0) (dTup (dCons (dC (.str "first")) (dCons (dC (.str "last")) (dCons (dC (.str "odd")) dNil)))))) (dRet (dOp fdivD (dVar 2) (dC (.int 2)))) dNext)
  (dSeq (dIfS (dB (dOp eqD (dVar 0) (dC (.str "both ends")))) (dRet (dCallB maxD (dCons (dC (.int 1)) (dCons (dOp fdivD (dVar 2) (dC (.int 4))) dNil)))) dNext)
  (dSeq (dIfS (dB (dOp eqD (dVar 0) (dC (.str "island")))) (dRet (dOp addD (dC (.int 1)) (dCall f_choose (dCons (dOp subD (dVar 1) (dC (.int 1))) (dCons (dC (.int 2)) dNil))))) dNext)
  (dRet (dOp dgetD (dDisp (dpCons (dC (.str "allow over")) (dOp subD (dVar 2) (dC (.int 1))) (dpCons (dC (.str "always allow")) (dVar 2) (dpCons (dC (.str "always deny")) (dC (.int 0)) (dpCons (dC (.str "deny over")) (dC (.int 1)) dpNil))))) (dVar 0))))))))
def f_allowed : Fn := fnD 3 d_allowed
def d_count_allowed : Ds := (dSeq (dDrop (dCall f_need_way (dCons (dVar 0) dNil)))
  (dSeq (dDrop (dCall f_need_number (dCons (dVar 1) (dCons (dC (.int 1)) (dCons (dC c_MOST_LENGTH) dNil)))))
  (dRet (dCall f_allowed (dCons (dVar 0) (dCons (dVar 1) dNil))))))
def f_count_allowed : Fn := fnD 2 d_count_allowed
def d_most_power : Ds := (dSeq (dAsg (dOp fdivD (dVar 1) (dC (.int 2))) (gdName 2))
  (dSeq (dIfS (dB (dOp eqD (dOp modD (dVar 1) (dC (.int 2))) (dC (.int 1)))) (dRet (dOp mulD (dLst (dCons (dOp mulD (dC (.int 2)) (dCall f_choose (dCons (dOp subD (dVar 1) (dC (.int 1))) (dCons (dVar 2) dNil)))) dNil)) (dVar 1))) dNext)
  (dSeq (dIfS (dB (dOp inD (dVar 0) (dTup (dCons (dC (.str "most or allow")) (dCons (dC (.str "most or deny")) dNil))))) (dRet (dOp mulD (dLst (dCons (dOp mulD (dC (.int 2)) (dCall f_choose (dCons (dOp subD (dVar 1) (dC (.int 1))) (dCons (dVar 2) dNil)))) dNil)) (dVar 1))) dNext)
  (dSeq (dAsg (dOp mulD (dC (.int 2)) (dOp addD (dCall f_choose (dCons (dOp subD (dVar 1) (dC (.int 2))) (dCons (dOp subD (dVar 2) (dC (.int 2))) dNil))) (dCall f_choose (dCons (dOp subD (dVar 1) (dC (.int 2))) (dCons (dVar 2) dNil))))) (gdName 3))
  (dSeq (dAsg (dOp mulD (dC (.int 2)) (dCall f_choose (dCons (dVar 1) (dCons (dVar 2) dNil)))) (gdName 4))
  (dRet (dIf (dB (dOp eqD (dVar 0) (dC (.str "most or first")))) (dOp addD (dLst (dCons (dVar 4) dNil)) (dOp mulD (dLst (dCons (dVar 3) dNil)) (dOp subD (dVar 1) (dC (.int 1))))) (dOp addD (dOp mulD (dLst (dCons (dVar 3) dNil)) (dOp subD (dVar 1) (dC (.int 1)))) (dLst (dCons (dVar 4) dNil))))))))))
def f_most_power : Fn := fnD 5 d_most_power
def d_is_island : Ds := (dRet (dChain3 leD leD leD (dC (.int 1)) (dVar 0) (dVar 1) (dOp subD (dVar 2) (dC (.int 2)))))
def f_is_island : Fn := fnD 3 d_is_island
def d_stays : Ds := (dSeq (dIfS (dOr (dB (dOp eqD (dVar 2) (dOp subD (dVar 0) (dC (.int 1))))) (dB (dOp eqD (dVar 2) (dOp addD (dVar 1) (dC (.int 1)))))) (dRet (dCall f_is_island (dCons (dCallB minD (dCons (dVar 0) (dCons (dVar 2) dNil))) (dCons (dCallB maxD (dCons (dVar 1) (dCons (dVar 2) dNil))) (dCons (dVar 3) dNil))))) dNext)
  (dSeq (dIfS (dAnd (dB (dOp ltA (dVar 0) (dVar 1))) (dB (dOp inD (dVar 2) (dTup (dCons (dVar 0) (dCons (dVar 1) dNil)))))) (dRet (dC (.bl true))) dNext)
  (dRet (dC (.bl false)))))
def f_stays : Fn := fnD 4 d_stays
def d_island_power : Ds := (dSeq (dAsg (dOp mulD (dLst (dCons (dC (.int 2)) dNil)) (dVar 0)) (gdName 1))
  (dSeq (dFor (dRng2 (dCons (dC (.int 1)) (dCons (dOp subD (dVar 0) (dC (.int 1))) dNil))) (gdName 2) (dFor (dRng2 (dCons (dVar 2) (dCons (dOp subD (dVar 0) (dC (.int 1))) dNil))) (gdName 3) (dAsg (dLc (dEnL (dCons (dVar 1) dNil)) (gdTup 2 (gdCons (gdName 4) (gdCons (gdName 5) gdNil))) dYes (dOp addD (dVar 5) (dIf (dB (dCall f_stays (dCons (dVar 2) (dCons (dVar 3) (dCons (dVar 4) (dCons (dVar 0) dNil)))))) (dC (.int 0)) (dC (.int 2)))) [4, 5]) (gdName 1))))
  (dRet (dVar 1))))
def f_island_power : Fn := fnD 6 d_island_power
def d_power_of : Ds := (dSeq (dAsg (dOp shlD (dC (.int 1)) (dVar 1)) (gdName 2))
  (dSeq (dIfS (dB (dOp eqD (dSl slD (dVar 0) dNone (dSome (dC (.int 4)))) (dC (.str "most")))) (dRet (dCall f_most_power (dCons (dVar 0) (dCons (dVar 1) dNil)))) dNext)
  (dSeq (dIfS (dB (dOp eqD (dVar 0) (dC (.str "island")))) (dRet (dCall f_island_power (dCons (dVar 1) dNil))) dNext)
  (dSeq (dIfS (dB (dOp eqD (dVar 0) (dC (.str "both ends")))) (dRet (dIf (dB (dOp eqD (dVar 1) (dC (.int 1)))) (dLst (dCons (dVar 2) dNil)) (dOp addD (dOp addD (dLst (dCons (dOp fdivD (dVar 2) (dC (.int 2))) dNil)) (dOp mulD (dLst (dCons (dC (.int 0)) dNil)) (dOp subD (dVar 1) (dC (.int 2))))) (dLst (dCons (dOp fdivD (dVar 2) (dC (.int 2))) dNil))))) dNext)
  (dSeq (dIfS (dB (dOp inD (dVar 0) (dTup (dCons (dC (.str "first")) (dCons (dC (.str "last")) dNil))))) (dSeq (dAsg (dOp mulD (dLst (dCons (dC (.int 0)) dNil)) (dOp subD (dVar 1) (dC (.int 1)))) (gdName 3))
  (dRet (dIf (dB (dOp eqD (dVar 0) (dC (.str "first")))) (dOp addD (dLst (dCons (dVar 2) dNil)) (dVar 3)) (dOp addD (dVar 3) (dLst (dCons (dVar 2) dNil)))))) dNext)
  (dRet (dOp mulD (dLst (dCons (dGet2 (dDisp (dpCons (dC (.str "allow over")) (dC (.int 2)) (dpCons (dC (.str "deny over")) (dC (.int 2)) (dpCons (dC (.str "odd")) (dVar 2) dpNil)))) (dVar 0) (dC (.int 0))) dNil)) (dVar 1))))))))
def f_power_of : Fn := fnD 4 d_power_of
def d_power : Ds := (dSeq (dDrop (dCall f_need_way (dCons (dVar 0) dNil)))
  (dSeq (dDrop (dCall f_need_number (dCons (dVar 1) (dCons (dC (.int 1)) (dCons (dC c_MOST_LENGTH) dNil)))))
  (dRet (dCallB tupleD (dCons (dCall f_power_of (dCons (dVar 0) (dCons (dVar 1) dNil))) dNil)))))
def f_power : Fn := fnD 2 d_power
def d_need_promise : Ds := (dIfS (dOr (dNot (dB (dUn (isiD "str") (dVar 0)))) (dB (dOp ninD (dVar 0) (dC c_PROMISES)))) dNever dNext)
def f_need_promise : Fn := fnD 1 d_need_promise
def d_holds : Ds := (dSeq (dDrop (dCall f_need_way (dCons (dVar 0) dNil)))
  (dSeq (dDrop (dCall f_need_promise (dCons (dVar 1) dNil)))
  (dRet (dOp inD (dVar 1) (dUn (kgetD l_KEPT) (dVar 0))))))
def f_holds : Fn := fnD 2 d_holds
def d__law_taken : Ds := (dSeq (dIfS (dB (dOp gtD (dRw 0 3) (dC (.int 0)))) (dSeq (dAsg (dOp modD (dCallB intD (dCons (dRw 0 3) dNil)) (dVar 1)) (gdName 2))
  (dSeq (dRwSet 0 3 (dOp fdivD (dRw 0 3) (dVar 1)))
  (dRet (dVar 2)))) dNext)
  (dSeq (dRwSet 0 1 (dOp addD (dRw 0 1) (dC (.int 1))))
  (dSeq (dIfS (dB (dOp gtD (dRw 0 1) (dCallB lenD (dCons (dRw 0 0) dNil)))) (dSeq (dRwSet 0 2 (dOp modD (dCallB intD (dCons (dOp addD (dOp mulD (dRw 0 2) (dC (.int 48271))) (dC (.int 11))) dNil)) (dC (.int 2147483647))))
  (dRet (dOp modD (dCallB intD (dCons (dOp fdivD (dRw 0 2) (dC (.int 7))) dNil)) (dVar 1)))) dNext)
  (dSeq (dAsg (dOp ixD (dRw 0 0) (dOp subD (dRw 0 1) (dC (.int 1)))) (gdName 3))
  (dSeq (dRwSet 0 2 (dOp modD (dCallB intD (dCons (dOp addD (dOp addD (dOp mulD (dRw 0 2) (dC (.int 48271))) (dVar 3)) (dC (.int 11))) dNil)) (dC (.int 2147483647))))
  (dSeq (dIfS (dB (dOp geD (dVar 3) (dOp powD (dC (.int 10)) (dC (.int 18))))) (dRwSet 0 3 (dOp fdivD (dVar 3) (dVar 1))) dNext)
  (dRet (dOp modD (dCallB intD (dCons (dVar 3) dNil)) (dVar 1)))))))))
def f__law_taken : Fn := fnD 4 d__law_taken
def d__law_pick : Ds := (dRet (dOp ixD (dVar 1) (dCall f__law_taken (dCons (dVar 0) (dCons (dCallB lenD (dCons (dVar 1) dNil)) dNil)))))
def f__law_pick : Fn := fnD 2 d__law_pick
def d__law_ways : Ds := (dRet (dLst (dCons (dC (.str "allow over")) (dCons (dC (.str "always allow")) (dCons (dC (.str "always deny")) (dCons (dC (.str "both ends")) (dCons (dC (.str "deny over")) (dCons (dC (.str "first")) (dCons (dC (.str "island")) (dCons (dC (.str "last")) (dCons (dC (.str "most or allow")) (dCons (dC (.str "most or deny")) (dCons (dC (.str "most or first")) (dCons (dC (.str "most or last")) (dCons (dC (.str "odd")) dNil)))))))))))))))
def f__law_ways : Fn := fnD 0 d__law_ways
def d__law_promises : Ds := (dRet (dLst (dCons (dC (.str "agreed")) (dCons (dC (.str "even")) (dCons (dC (.str "growing")) (dCons (dC (.str "heard")) (dCons (dC (.str "kept")) (dCons (dC (.str "mixed")) (dCons (dC (.str "most")) (dCons (dC (.str "order")) (dCons (dC (.str "parts")) (dCons (dC (.str "repeat")) dNil))))))))))))
def f__law_promises : Fn := fnD 0 d__law_promises
def d__law_turned : Ds := (dRet (dMethS joinSD (dC (.str "")) (dCons (dLc (dItS (dVar 0)) (gdName 1) dYes (dIf (dB (dOp eqD (dVar 1) (dC (.str "+")))) (dC (.str "-")) (dC (.str "+"))) [1]) dNil)))
def f__law_turned : Fn := fnD 2 d__law_turned
def d__law_row : Ds := (dRet (dMethS joinSD (dC (.str "")) (dCons (dLc (dRng1 (dCons (dOp addD (dC (.int 1)) (dCall f__law_taken (dCons (dVar 0) (dCons (dVar 1) dNil)))) dNil)) (gdName 2) dYes (dCall f__law_pick (dCons (dVar 0) (dCons (dLst (dCons (dC (.str "+")) (dCons (dC (.str "-")) dNil))) dNil))) [2]) dNil)))
def f__law_row : Fn := fnD 3 d__law_row
def d__law_word : Ds := (dRet (dOp dgetD (dDisp (dpCons (dC (.str "+")) (dC (.str "allow")) (dpCons (dC (.str "-")) (dC (.str "deny")) dpNil))) (dVar 0)))
def f__law_word : Fn := fnD 1 d__law_word
def d__law_voices : Ds := (dRet (dCallB tupleD (dCons (dLc (dItS (dVar 0)) (gdName 1) dYes (dCall f__law_word (dCons (dVar 1) dNil)) [1]) dNil)))
def f__law_voices : Fn := fnD 2 d__law_voices
def d__law_mirror : Ds := (dSeq (dIfS (dB (dOp inD (dVar 0) (dLst (dCons (dC (.str "first")) (dCons (dC (.str "last")) (dCons (dC (.str "most or first")) (dCons (dC (.str "most or last")) dNil))))))) (dRet (dVar 0)) dNext)
  (dSeq (dOwn (dDisp (dpCons (dC (.str "allow over")) (dC (.str "deny over")) (dpCons (dC (.str "deny over")) (dC (.str "allow over")) (dpCons (dC (.str "always allow")) (dC (.str "always deny")) (dpCons (dC (.str "always deny")) (dC (.str "always allow")) dpNil))))) 1)
  (dSeq (dDPut2 1 "most or allow" "most or deny" (dTup (dCons (dC (.str "most or deny")) (dCons (dC (.str "most or allow")) dNil))))
  (dFrz 1 (dRet (dOp dget1D (dVar 1) (dVar 0)))))))
def f__law_mirror : Fn := fnD 2 d__law_mirror
def d__law_back : Ds := (dSeq (dAsg (dDisp (dpCons (dC (.str "first")) (dC (.str "last")) (dpCons (dC (.str "last")) (dC (.str "first")) (dpCons (dC (.str "most or first")) (dC (.str "most or last")) (dpCons (dC (.str "most or last")) (dC (.str "most or first")) dpNil))))) (gdName 1))
  (dRet (dGet2 (dVar 1) (dVar 0) (dVar 0))))
def f__law_back : Fn := fnD 2 d__law_back
def d_law : Ds := (dSeq (dAsg (dTup (dCons (dCall f__law_pick (dCons (dVar 1) (dCons (dCall f__law_ways dNil) dNil))) (dCons (dCall f__law_row (dCons (dVar 1) (dCons (dC (.int 12)) dNil))) (dCons (dOp addD (dC (.int 1)) (dCall f__law_taken (dCons (dVar 1) (dCons (dC (.int 60)) dNil)))) dNil)))) (gdTup 3 (gdCons (gdName 2) (gdCons (gdName 3) (gdCons (gdName 4) gdNil)))))
  (dSeq (dPar 5 6 (dCons (dCall f__law_voices (dCons (dVar 3) dNil)) (dCons (dCall f__law_voices (dCons (dCall f__law_turned (dCons (dVar 3) dNil)) dNil)) dNil)))
  (dSeq (dAsg (dTup (dCons (dCall f__law_mirror (dCons (dVar 2) dNil)) (dCons (dCall f__law_back (dCons (dVar 2) dNil)) dNil))) (gdTup 2 (gdCons (gdName 7) (gdCons (gdName 8) gdNil))))
  (dSeq (dIfS (dOr (dB (dOp neD (dCall f_answer (dCons (dVar 8) (dCons (dUn revD (dVar 5)) dNil))) (dCall f_answer (dCons (dVar 2) (dCons (dVar 5) dNil))))) (dB (dOp neD (dCall f_power (dCons (dVar 8) (dCons (dVar 4) dNil))) (dUn revD (dCall f_power (dCons (dVar 2) (dCons (dVar 4) dNil))))))) (dRet (dC (.bl false))) dNext)
  (dSeq (dIfS (dB (dOp neD (dCall f_matters (dCons (dVar 8) (dCons (dUn revD (dVar 5)) dNil))) (dCallB tupleD (dCons (dCallB sortedD (dCons (dLc (dItT (dCall f_matters (dCons (dVar 2) (dCons (dVar 5) dNil)))) (gdName 9) dYes (dOp subD (dOp subD (dCallB lenD (dCons (dVar 3) dNil)) (dC (.int 1))) (dVar 9)) [9]) dNil)) dNil)))) (dRet (dC (.bl false))) dNext)
  (dSeq (dIfS (dOr (dB (dOp neD (dCall f_count_allowed (dCons (dVar 8) (dCons (dVar 4) dNil))) (dCall f_count_allowed (dCons (dVar 2) (dCons (dVar 4) dNil))))) (dB (dOp neD (dLc (dItL (dCall f__law_promises dNil)) (gdName 10) (dB (dOp neD (dCall f_holds (dCons (dVar 8) (dCons (dVar 10) dNil))) (dCall f_holds (dCons (dVar 2) (dCons (dVar 10) dNil))))) (dVar 10) [10]) (dLst dNil)))) (dRet (dC (.bl false))) dNext)
  (dSeq (dIfS (dB (dUn isN (dVar 7))) (dRet (dC (.bl true))) dNext)
  (dSeq (dIfS (dOr (dB (dOp eqD (dCall f_answer (dCons (dVar 7) (dCons (dVar 6) dNil))) (dCall f_answer (dCons (dVar 2) (dCons (dVar 5) dNil))))) (dOr (dB (dOp neD (dCall f_matters (dCons (dVar 7) (dCons (dVar 6) dNil))) (dCall f_matters (dCons (dVar 2) (dCons (dVar 5) dNil))))) (dB (dOp neD (dCall f_power (dCons (dVar 7) (dCons (dVar 4) dNil))) (dCall f_power (dCons (dVar 2) (dCons (dVar 4) dNil))))))) (dRet (dC (.bl false))) dNext)
  (dSeq (dAsg (dC (.int 1)) (gdName 11))
  (dSeq (dFor (dRng1 (dCons (dVar 4) dNil)) (gdName 12) (dAsg (dOp mulD (dVar 11) (dC (.int 2))) (gdName 11)))
  (dRet (dAndV (dOp eqD (dOp addD (dCall f_count_allowed (dCons (dVar 2) (dCons (dVar 4) dNil))) (dCall f_count_allowed (dCons (dVar 7) (dCons (dVar 4) dNil)))) (dVar 11)) (dOp eqD (dLc (dItL (dCall f__law_promises dNil)) (gdName 10) (dB (dOp neD (dCall f_holds (dCons (dVar 7) (dCons (dVar 10) dNil))) (dCall f_holds (dCons (dVar 2) (dCons (dVar 10) dNil))))) (dVar 10) [10]) (dLst dNil))))))))))))))
end Rk11
end
section
set_option Elab.async false
set_option linter.all false
set_option maxRecDepth 100000
set_option maxHeartbeats 4000000
open PySem L2 Dl PyProof.Rows
namespace Rk11
/-! the draws -/
theorem taken_ok (s : Tau) (hs : 0 ≤ s.a) (m : Int) (h1 : 0 < m) (h2 : m < 1073741824) : ∃ d s', f__law_taken [.rw, .int m] s = some ((.int d, false), s') ∧ 0 ≤ d ∧ d < m ∧ 0 ≤ s'.a := by
  obtain ⟨a, b, c, ns⟩ := s
  have e0 : Int.emod c m < m := Int.emod_lt_of_pos _ h1
  have nz : m ≠ 0 := by omega
  by_cases hc : 0 < c
  · refine ⟨c % m, ⟨a, b, c / m, ns⟩, ?_, Int.emod_nonneg _ nz, Int.emod_lt_of_pos _ h1, hs⟩
    refine fn_rt (seq_ifT (s1 := ⟨a, b, c, ns⟩) ?_ ?_)
    · simp only [fnD, dSeq, dIfS, dRet, dAsg, dPar, dDrop, dNext, dVar, dC, dOp, dUn, dCallB, dCall, dMethS, dNil, dCons, dB, dNot, dAnd, dOr, dAndV, dOrV, dNotV, dIf, dTup, dLst, dSl, dNone, dSome, dChain, dDisp, dpCons, dpNil, dStar, gdName, gdTup, gdCons, gdNil, dRw, dRwSet, Tau.put, Dl.intD, modD, fdivD, subD, negD, ltD, gtD, geD, leD, i2, eqD_int, neD_int, eqD_bl, neD_bl, D.asT, D.its, isiD, isi2D, D.ty, isN, isNB, Option.bind_some, Option.bind_none, Option.map_some, Option.map_none, List.map_cons, List.map_nil, List.cons_append, List.nil_append, List.append_nil, List.length_cons, List.length_nil, List.getElem?_cons_zero, List.getElem?_cons_succ, List.replicate, List.set_cons_zero, List.set_cons_succ, Nat.sub_self, Nat.reduceAdd, Nat.reduceSub, Nat.add_sub_cancel, if_true, if_false, decide_true, decide_false, Bool.not_true, Bool.not_false, Bool.true_and, Bool.false_and, Bool.or_true, Bool.true_or, Bool.or_false, Bool.false_or, Bool.and_true, Bool.and_false, ite_true, ite_false, reduceIte, Bool.false_eq_true, hc]
    · simp only [fnD, dSeq, dIfS, dRet, dAsg, dPar, dDrop, dNext, dVar, dC, dOp, dUn, dCallB, dCall, dMethS, dNil, dCons, dB, dNot, dAnd, dOr, dAndV, dOrV, dNotV, dIf, dTup, dLst, dSl, dNone, dSome, dChain, dDisp, dpCons, dpNil, dStar, gdName, gdTup, gdCons, gdNil, dRw, dRwSet, Tau.put, Dl.intD, modD, fdivD, subD, negD, ltD, gtD, geD, leD, i2, eqD_int, neD_int, eqD_bl, neD_bl, D.asT, D.its, isiD, isi2D, D.ty, isN, isNB, Option.bind_some, Option.bind_none, Option.map_some, Option.map_none, List.map_cons, List.map_nil, List.cons_append, List.nil_append, List.append_nil, List.length_cons, List.length_nil, List.getElem?_cons_zero, List.getElem?_cons_succ, List.replicate, List.set_cons_zero, List.set_cons_succ, Nat.sub_self, Nat.reduceAdd, Nat.reduceSub, Nat.add_sub_cancel, if_true, if_false, decide_true, decide_false, Bool.not_true, Bool.not_false, Bool.true_and, Bool.false_and, Bool.or_true, Bool.true_or, Bool.or_false, Bool.false_or, Bool.and_true, Bool.and_false, ite_true, ite_false, reduceIte, Bool.false_eq_true, h1, h2, and_self]
  · have hs' : 0 ≤ a := hs
    by_cases hl : (ns.length : Int) < a + 1
    · refine ⟨((b * 48271 + 11) % 2147483647 / 7) % m, ⟨a + 1, (b * 48271 + 11) % 2147483647, c, ns⟩, ?_, Int.emod_nonneg _ nz, Int.emod_lt_of_pos _ h1, by show 0 ≤ a + 1; omega⟩
      refine fn_rt (seq_ifF (s1 := ⟨a, b, c, ns⟩) ?_ (seq_nx (ρ1 := [.im .rw, .im (.int m), .un, .un]) (s1 := ⟨a + 1, b, c, ns⟩) ?_ (seq_ifT (s1 := ⟨a + 1, b, c, ns⟩) ?_ ?_)))
      · simp only [fnD, dSeq, dIfS, dRet, dAsg, dPar, dDrop, dNext, dVar, dC, dOp, dUn, dCallB, dCall, dMethS, dNil, dCons, dB, dNot, dAnd, dOr, dAndV, dOrV, dNotV, dIf, dTup, dLst, dSl, dNone, dSome, dChain, dDisp, dpCons, dpNil, dStar, gdName, gdTup, gdCons, gdNil, dRw, dRwSet, Tau.put, Dl.intD, modD, fdivD, subD, negD, ltD, gtD, geD, leD, i2, eqD_int, neD_int, eqD_bl, neD_bl, D.asT, D.its, isiD, isi2D, D.ty, isN, isNB, Option.bind_some, Option.bind_none, Option.map_some, Option.map_none, List.map_cons, List.map_nil, List.cons_append, List.nil_append, List.append_nil, List.length_cons, List.length_nil, List.getElem?_cons_zero, List.getElem?_cons_succ, List.replicate, List.set_cons_zero, List.set_cons_succ, Nat.sub_self, Nat.reduceAdd, Nat.reduceSub, Nat.add_sub_cancel, if_true, if_false, decide_true, decide_false, Bool.not_true, Bool.not_false, Bool.true_and, Bool.false_and, Bool.or_true, Bool.true_or, Bool.or_false, Bool.false_or, Bool.and_true, Bool.and_false, ite_true, ite_false, reduceIte, Bool.false_eq_true, hc]
      · simp only [fnD, dSeq, dIfS, dRet, dAsg, dPar, dDrop, dNext, dVar, dC, dOp, dUn, dCallB, dCall, dMethS, dNil, dCons, dB, dNot, dAnd, dOr, dAndV, dOrV, dNotV, dIf, dTup, dLst, dSl, dNone, dSome, dChain, dDisp, dpCons, dpNil, dStar, gdName, gdTup, gdCons, gdNil, dRw, dRwSet, Tau.put, Dl.intD, modD, fdivD, subD, negD, ltD, gtD, geD, leD, i2, eqD_int, neD_int, eqD_bl, neD_bl, D.asT, D.its, isiD, isi2D, D.ty, isN, isNB, Option.bind_some, Option.bind_none, Option.map_some, Option.map_none, List.map_cons, List.map_nil, List.cons_append, List.nil_append, List.append_nil, List.length_cons, List.length_nil, List.getElem?_cons_zero, List.getElem?_cons_succ, List.replicate, List.set_cons_zero, List.set_cons_succ, Nat.sub_self, Nat.reduceAdd, Nat.reduceSub, Nat.add_sub_cancel, if_true, if_false, decide_true, decide_false, Bool.not_true, Bool.not_false, Bool.true_and, Bool.false_and, Bool.or_true, Bool.true_or, Bool.or_false, Bool.false_or, Bool.and_true, Bool.and_false, ite_true, ite_false, reduceIte, Bool.false_eq_true, addD]
      · simp only [fnD, dSeq, dIfS, dRet, dAsg, dPar, dDrop, dNext, dVar, dC, dOp, dUn, dCallB, dCall, dMethS, dNil, dCons, dB, dNot, dAnd, dOr, dAndV, dOrV, dNotV, dIf, dTup, dLst, dSl, dNone, dSome, dChain, dDisp, dpCons, dpNil, dStar, gdName, gdTup, gdCons, gdNil, dRw, dRwSet, Tau.put, Dl.intD, modD, fdivD, subD, negD, ltD, gtD, geD, leD, i2, eqD_int, neD_int, eqD_bl, neD_bl, D.asT, D.its, isiD, isi2D, D.ty, isN, isNB, Option.bind_some, Option.bind_none, Option.map_some, Option.map_none, List.map_cons, List.map_nil, List.cons_append, List.nil_append, List.append_nil, List.length_cons, List.length_nil, List.getElem?_cons_zero, List.getElem?_cons_succ, List.replicate, List.set_cons_zero, List.set_cons_succ, Nat.sub_self, Nat.reduceAdd, Nat.reduceSub, Nat.add_sub_cancel, if_true, if_false, decide_true, decide_false, Bool.not_true, Bool.not_false, Bool.true_and, Bool.false_and, Bool.or_true, Bool.true_or, Bool.or_false, Bool.false_or, Bool.and_true, Bool.and_false, ite_true, ite_false, reduceIte, Bool.false_eq_true, lenD, hl]
      · simp only [fnD, dSeq, dIfS, dRet, dAsg, dPar, dDrop, dNext, dVar, dC, dOp, dUn, dCallB, dCall, dMethS, dNil, dCons, dB, dNot, dAnd, dOr, dAndV, dOrV, dNotV, dIf, dTup, dLst, dSl, dNone, dSome, dChain, dDisp, dpCons, dpNil, dStar, gdName, gdTup, gdCons, gdNil, dRw, dRwSet, Tau.put, Dl.intD, modD, fdivD, subD, negD, ltD, gtD, geD, leD, i2, eqD_int, neD_int, eqD_bl, neD_bl, D.asT, D.its, isiD, isi2D, D.ty, isN, isNB, Option.bind_some, Option.bind_none, Option.map_some, Option.map_none, List.map_cons, List.map_nil, List.cons_append, List.nil_append, List.append_nil, List.length_cons, List.length_nil, List.getElem?_cons_zero, List.getElem?_cons_succ, List.replicate, List.set_cons_zero, List.set_cons_succ, Nat.sub_self, Nat.reduceAdd, Nat.reduceSub, Nat.add_sub_cancel, if_true, if_false, decide_true, decide_false, Bool.not_true, Bool.not_false, Bool.true_and, Bool.false_and, Bool.or_true, Bool.true_or, Bool.or_false, Bool.false_or, Bool.and_true, Bool.and_false, ite_true, ite_false, reduceIte, Bool.false_eq_true, addD, mulD, mulI, h1, h2]
        simp [h1]
    · have hn : a.toNat < ns.length := by omega
      obtain ⟨q, hq⟩ : ∃ q, ns[a.toNat]? = some q := ⟨_, List.getElem?_eq_getElem hn⟩
      have hix : atI ns (a + 1 - 1) = some q := by
        have e : a + 1 - 1 = a := by omega
        unfold atI ixN
        rw [e, if_pos hs', if_pos (by omega)]
        exact hq
      by_cases h18 : (1000000000000000000 : Int) ≤ q
      · refine ⟨q % m, ⟨a + 1, (b * 48271 + q + 11) % 2147483647, q / m, ns⟩, ?_, Int.emod_nonneg _ nz, Int.emod_lt_of_pos _ h1, by show 0 ≤ a + 1; omega⟩
        refine fn_rt (seq_ifF (s1 := ⟨a, b, c, ns⟩) ?_ (seq_nx (ρ1 := [.im .rw, .im (.int m), .un, .un]) (s1 := ⟨a + 1, b, c, ns⟩) ?_ (seq_ifF (s1 := ⟨a + 1, b, c, ns⟩) ?_ ?_)))
        · simp only [fnD, dSeq, dIfS, dRet, dAsg, dPar, dDrop, dNext, dVar, dC, dOp, dUn, dCallB, dCall, dMethS, dNil, dCons, dB, dNot, dAnd, dOr, dAndV, dOrV, dNotV, dIf, dTup, dLst, dSl, dNone, dSome, dChain, dDisp, dpCons, dpNil, dStar, gdName, gdTup, gdCons, gdNil, dRw, dRwSet, Tau.put, Dl.intD, modD, fdivD, subD, negD, ltD, gtD, geD, leD, i2, eqD_int, neD_int, eqD_bl, neD_bl, D.asT, D.its, isiD, isi2D, D.ty, isN, isNB, Option.bind_some, Option.bind_none, Option.map_some, Option.map_none, List.map_cons, List.map_nil, List.cons_append, List.nil_append, List.append_nil, List.length_cons, List.length_nil, List.getElem?_cons_zero, List.getElem?_cons_succ, List.replicate, List.set_cons_zero, List.set_cons_succ, Nat.sub_self, Nat.reduceAdd, Nat.reduceSub, Nat.add_sub_cancel, if_true, if_false, decide_true, decide_false, Bool.not_true, Bool.not_false, Bool.true_and, Bool.false_and, Bool.or_true, Bool.true_or, Bool.or_false, Bool.false_or, Bool.and_true, Bool.and_false, ite_true, ite_false, reduceIte, Bool.false_eq_true, hc]
        · simp only [fnD, dSeq, dIfS, dRet, dAsg, dPar, dDrop, dNext, dVar, dC, dOp, dUn, dCallB, dCall, dMethS, dNil, dCons, dB, dNot, dAnd, dOr, dAndV, dOrV, dNotV, dIf, dTup, dLst, dSl, dNone, dSome, dChain, dDisp, dpCons, dpNil, dStar, gdName, gdTup, gdCons, gdNil, dRw, dRwSet, Tau.put, Dl.intD, modD, fdivD, subD, negD, ltD, gtD, geD, leD, i2, eqD_int, neD_int, eqD_bl, neD_bl, D.asT, D.its, isiD, isi2D, D.ty, isN, isNB, Option.bind_some, Option.bind_none, Option.map_some, Option.map_none, List.map_cons, List.map_nil, List.cons_append, List.nil_append, List.append_nil, List.length_cons, List.length_nil, List.getElem?_cons_zero, List.getElem?_cons_succ, List.replicate, List.set_cons_zero, List.set_cons_succ, Nat.sub_self, Nat.reduceAdd, Nat.reduceSub, Nat.add_sub_cancel, if_true, if_false, decide_true, decide_false, Bool.not_true, Bool.not_false, Bool.true_and, Bool.false_and, Bool.or_true, Bool.true_or, Bool.or_false, Bool.false_or, Bool.and_true, Bool.and_false, ite_true, ite_false, reduceIte, Bool.false_eq_true, addD]
        · simp only [fnD, dSeq, dIfS, dRet, dAsg, dPar, dDrop, dNext, dVar, dC, dOp, dUn, dCallB, dCall, dMethS, dNil, dCons, dB, dNot, dAnd, dOr, dAndV, dOrV, dNotV, dIf, dTup, dLst, dSl, dNone, dSome, dChain, dDisp, dpCons, dpNil, dStar, gdName, gdTup, gdCons, gdNil, dRw, dRwSet, Tau.put, Dl.intD, modD, fdivD, subD, negD, ltD, gtD, geD, leD, i2, eqD_int, neD_int, eqD_bl, neD_bl, D.asT, D.its, isiD, isi2D, D.ty, isN, isNB, Option.bind_some, Option.bind_none, Option.map_some, Option.map_none, List.map_cons, List.map_nil, List.cons_append, List.nil_append, List.append_nil, List.length_cons, List.length_nil, List.getElem?_cons_zero, List.getElem?_cons_succ, List.replicate, List.set_cons_zero, List.set_cons_succ, Nat.sub_self, Nat.reduceAdd, Nat.reduceSub, Nat.add_sub_cancel, if_true, if_false, decide_true, decide_false, Bool.not_true, Bool.not_false, Bool.true_and, Bool.false_and, Bool.or_true, Bool.true_or, Bool.or_false, Bool.false_or, Bool.and_true, Bool.and_false, ite_true, ite_false, reduceIte, Bool.false_eq_true, lenD, hl]
        · simp only [fnD, dSeq, dIfS, dRet, dAsg, dPar, dDrop, dNext, dVar, dC, dOp, dUn, dCallB, dCall, dMethS, dNil, dCons, dB, dNot, dAnd, dOr, dAndV, dOrV, dNotV, dIf, dTup, dLst, dSl, dNone, dSome, dChain, dDisp, dpCons, dpNil, dStar, gdName, gdTup, gdCons, gdNil, dRw, dRwSet, Tau.put, Dl.intD, modD, fdivD, subD, negD, ltD, gtD, geD, leD, i2, eqD_int, neD_int, eqD_bl, neD_bl, D.asT, D.its, isiD, isi2D, D.ty, isN, isNB, Option.bind_some, Option.bind_none, Option.map_some, Option.map_none, List.map_cons, List.map_nil, List.cons_append, List.nil_append, List.append_nil, List.length_cons, List.length_nil, List.getElem?_cons_zero, List.getElem?_cons_succ, List.replicate, List.set_cons_zero, List.set_cons_succ, Nat.sub_self, Nat.reduceAdd, Nat.reduceSub, Nat.add_sub_cancel, if_true, if_false, decide_true, decide_false, Bool.not_true, Bool.not_false, Bool.true_and, Bool.false_and, Bool.or_true, Bool.true_or, Bool.or_false, Bool.false_or, Bool.and_true, Bool.and_false, ite_true, ite_false, reduceIte, Bool.false_eq_true, addD, mulD, mulI, h1, h2, ixD, hix, powD]
          simp [h18, h1, h2]
      · refine ⟨q % m, ⟨a + 1, (b * 48271 + q + 11) % 2147483647, c, ns⟩, ?_, Int.emod_nonneg _ nz, Int.emod_lt_of_pos _ h1, by show 0 ≤ a + 1; omega⟩
        refine fn_rt (seq_ifF (s1 := ⟨a, b, c, ns⟩) ?_ (seq_nx (ρ1 := [.im .rw, .im (.int m), .un, .un]) (s1 := ⟨a + 1, b, c, ns⟩) ?_ (seq_ifF (s1 := ⟨a + 1, b, c, ns⟩) ?_ ?_)))
        · simp only [fnD, dSeq, dIfS, dRet, dAsg, dPar, dDrop, dNext, dVar, dC, dOp, dUn, dCallB, dCall, dMethS, dNil, dCons, dB, dNot, dAnd, dOr, dAndV, dOrV, dNotV, dIf, dTup, dLst, dSl, dNone, dSome, dChain, dDisp, dpCons, dpNil, dStar, gdName, gdTup, gdCons, gdNil, dRw, dRwSet, Tau.put, Dl.intD, modD, fdivD, subD, negD, ltD, gtD, geD, leD, i2, eqD_int, neD_int, eqD_bl, neD_bl, D.asT, D.its, isiD, isi2D, D.ty, isN, isNB, Option.bind_some, Option.bind_none, Option.map_some, Option.map_none, List.map_cons, List.map_nil, List.cons_append, List.nil_append, List.append_nil, List.length_cons, List.length_nil, List.getElem?_cons_zero, List.getElem?_cons_succ, List.replicate, List.set_cons_zero, List.set_cons_succ, Nat.sub_self, Nat.reduceAdd, Nat.reduceSub, Nat.add_sub_cancel, if_true, if_false, decide_true, decide_false, Bool.not_true, Bool.not_false, Bool.true_and, Bool.false_and, Bool.or_true, Bool.true_or, Bool.or_false, Bool.false_or, Bool.and_true, Bool.and_false, ite_true, ite_false, reduceIte, Bool.false_eq_true, hc]
        · simp only [fnD, dSeq, dIfS, dRet, dAsg, dPar, dDrop, dNext, dVar, dC, dOp, dUn, dCallB, dCall, dMethS, dNil, dCons, dB, dNot, dAnd, dOr, dAndV, dOrV, dNotV, dIf, dTup, dLst, dSl, dNone, dSome, dChain, dDisp, dpCons, dpNil, dStar, gdName, gdTup, gdCons, gdNil, dRw, dRwSet, Tau.put, Dl.intD, modD, fdivD, subD, negD, ltD, gtD, geD, leD, i2, eqD_int, neD_int, eqD_bl, neD_bl, D.asT, D.its, isiD, isi2D, D.ty, isN, isNB, Option.bind_some, Option.bind_none, Option.map_some, Option.map_none, List.map_cons, List.map_nil, List.cons_append, List.nil_append, List.append_nil, List.length_cons, List.length_nil, List.getElem?_cons_zero, List.getElem?_cons_succ, List.replicate, List.set_cons_zero, List.set_cons_succ, Nat.sub_self, Nat.reduceAdd, Nat.reduceSub, Nat.add_sub_cancel, if_true, if_false, decide_true, decide_false, Bool.not_true, Bool.not_false, Bool.true_and, Bool.false_and, Bool.or_true, Bool.true_or, Bool.or_false, Bool.false_or, Bool.and_true, Bool.and_false, ite_true, ite_false, reduceIte, Bool.false_eq_true, addD]
        · simp only [fnD, dSeq, dIfS, dRet, dAsg, dPar, dDrop, dNext, dVar, dC, dOp, dUn, dCallB, dCall, dMethS, dNil, dCons, dB, dNot, dAnd, dOr, dAndV, dOrV, dNotV, dIf, dTup, dLst, dSl, dNone, dSome, dChain, dDisp, dpCons, dpNil, dStar, gdName, gdTup, gdCons, gdNil, dRw, dRwSet, Tau.put, Dl.intD, modD, fdivD, subD, negD, ltD, gtD, geD, leD, i2, eqD_int, neD_int, eqD_bl, neD_bl, D.asT, D.its, isiD, isi2D, D.ty, isN, isNB, Option.bind_some, Option.bind_none, Option.map_some, Option.map_none, List.map_cons, List.map_nil, List.cons_append, List.nil_append, List.append_nil, List.length_cons, List.length_nil, List.getElem?_cons_zero, List.getElem?_cons_succ, List.replicate, List.set_cons_zero, List.set_cons_succ, Nat.sub_self, Nat.reduceAdd, Nat.reduceSub, Nat.add_sub_cancel, if_true, if_false, decide_true, decide_false, Bool.not_true, Bool.not_false, Bool.true_and, Bool.false_and, Bool.or_true, Bool.true_or, Bool.or_false, Bool.false_or, Bool.and_true, Bool.and_false, ite_true, ite_false, reduceIte, Bool.false_eq_true, lenD, hl]
        · simp only [fnD, dSeq, dIfS, dRet, dAsg, dPar, dDrop, dNext, dVar, dC, dOp, dUn, dCallB, dCall, dMethS, dNil, dCons, dB, dNot, dAnd, dOr, dAndV, dOrV, dNotV, dIf, dTup, dLst, dSl, dNone, dSome, dChain, dDisp, dpCons, dpNil, dStar, gdName, gdTup, gdCons, gdNil, dRw, dRwSet, Tau.put, Dl.intD, modD, fdivD, subD, negD, ltD, gtD, geD, leD, i2, eqD_int, neD_int, eqD_bl, neD_bl, D.asT, D.its, isiD, isi2D, D.ty, isN, isNB, Option.bind_some, Option.bind_none, Option.map_some, Option.map_none, List.map_cons, List.map_nil, List.cons_append, List.nil_append, List.append_nil, List.length_cons, List.length_nil, List.getElem?_cons_zero, List.getElem?_cons_succ, List.replicate, List.set_cons_zero, List.set_cons_succ, Nat.sub_self, Nat.reduceAdd, Nat.reduceSub, Nat.add_sub_cancel, if_true, if_false, decide_true, decide_false, Bool.not_true, Bool.not_false, Bool.true_and, Bool.false_and, Bool.or_true, Bool.true_or, Bool.or_false, Bool.false_or, Bool.and_true, Bool.and_false, ite_true, ite_false, reduceIte, Bool.false_eq_true, addD, mulD, mulI, h1, h2, ixD, hix, powD]
          simp [h18, h1, h2]
/-- a pick from a list -/
theorem pick_ok (s : Tau) (hs : 0 ≤ s.a) (xs : List D) (h0 : xs ≠ []) (hl : xs.length ≤ 1000000) : ∃ d s', f__law_pick [.rw, .lst xs] s = some ((d, false), s') ∧ d ∈ xs ∧ 0 ≤ s'.a := by
  have hp : 0 < xs.length := List.length_pos_iff.mpr h0
  obtain ⟨i, s', h1, h2, h3, h4⟩ := taken_ok s hs xs.length (by omega) (by omega)
  have hn : i.toNat < xs.length := by omega
  refine ⟨xs[i.toNat], s', ?_, List.getElem_mem _, h4⟩
  refine fn_rt (ret_of ?_)
  have hix : atI xs i = some xs[i.toNat] := by
    unfold atI ixN
    rw [if_pos h2, if_pos (by omega)]
    exact List.getElem?_eq_getElem hn
  simp only [fnD, dSeq, dIfS, dRet, dAsg, dPar, dDrop, dNext, dVar, dC, dOp, dUn, dCallB, dCall, dMethS, dNil, dCons, dB, dNot, dAnd, dOr, dAndV, dOrV, dNotV, dIf, dTup, dLst, dSl, dNone, dSome, dChain, dDisp, dpCons, dpNil, dStar, gdName, gdTup, gdCons, gdNil, dRw, dRwSet, Tau.put, Dl.intD, modD, fdivD, subD, negD, ltD, gtD, geD, leD, i2, eqD_int, neD_int, eqD_bl, neD_bl, D.asT, D.its, isiD, isi2D, D.ty, isN, isNB, Option.bind_some, Option.bind_none, Option.map_some, Option.map_none, List.map_cons, List.map_nil, List.cons_append, List.nil_append, List.append_nil, List.length_cons, List.length_nil, List.getElem?_cons_zero, List.getElem?_cons_succ, List.replicate, List.set_cons_zero, List.set_cons_succ, Nat.sub_self, Nat.reduceAdd, Nat.reduceSub, Nat.add_sub_cancel, if_true, if_false, decide_true, decide_false, Bool.not_true, Bool.not_false, Bool.true_and, Bool.false_and, Bool.or_true, Bool.true_or, Bool.or_false, Bool.false_or, Bool.and_true, Bool.and_false, ite_true, ite_false, reduceIte, Bool.false_eq_true, lenD, h1, ixD, hix]


end Rk11
end
section
set_option Elab.async false
set_option linter.all false
set_option maxRecDepth 100000
set_option maxHeartbeats 4000000
open PySem L2 Dl PyProof.Rows
namespace Rk11
theorem said_ok (b : Bool) (s : Tau) : f_said [.bl b] s = some ((vD b, false), s) := by cases b <;> kernel_rfl
theorem word_ok (b : Bool) (s : Tau) : f__law_word [gD b] s = some ((vD b, false), s) := by cases b <;> kernel_rfl
theorem lturned_ok (b : Bool) (s : Tau) : f__law_turned [gD b] s = some ((gD (!b), false), s) := by cases b <;> kernel_rfl
theorem turned_ok (b : Bool) (s : Tau) : f_turned [vD b] s = some ((vD (!b), false), s) := by cases b <;> kernel_rfl
theorem voice_ok (b : Bool) (s : Tau) : f_is_voice [vD b] s = some ((.bl true, false), s) := by cases b <;> kernel_rfl
theorem voices_ok {bs : List Bool} (hl : bs.length ≤ 1000000) (s : Tau) : f__law_voices [.str (tx bs)] s = some ((row bs, false), s) :=
  fn_rt (ret_of (callB_of (one_of (lc_all gD vD bs ((itS_of rfl).trans (by rw [tx_ch])) hl fun b _ => ⟨_, rfl, call_of (one_of rfl) (word_ok b s)⟩)) rfl))
theorem turned_at_ok {bs : List Bool} {i : Nat} {b : Bool} (hl : bs.length ≤ 1000) (h : bs[i]? = some b) (s : Tau) : f_turned_at [row bs, .int i] s = some ((row (fl bs i), false), s) := by
  have hi := (List.getElem?_eq_some_iff.mp h).1
  have e : (bs.take i).map vD ++ (vD (!b) :: ((bs.drop (i + 1)).map vD ++ [])) = (fl bs i).map vD := by
    rw [List.append_nil, ← fl_cut h, List.map_append, List.map_cons]
  have key := star_of (ρ := [.im (row bs), .im (.int i)]) (da := dSl slD (dVar 0) dNone (dSome (dVar 1))) (ar := dCons (dCall f_turned (dCons (dOp ixD (dVar 0) (dVar 1)) dNil)) (dStar (dSl slD (dVar 0) (dSome (dOp addD (dVar 1) (dC (.int 1)))) dNone) dNil))
    (x := .ktp ((bs.take i).map vD)) (s := s) (sl_of (s2 := s) rfl rfl (some_of rfl) ((sl_row bs _ _).trans (by rw [cut_to]))) rfl
    (cons_of (call_of (one_of (op_of rfl rfl (ix_row ((at_nat bs i).trans h)))) (turned_ok b s)) (star_of (x := .ktp ((bs.drop (i + 1)).map vD)) (sl_of (s2 := s) rfl (some_of (op_of rfl rfl rfl)) rfl ((sl_row bs _ _).trans (by
      show some (D.ktp ((cutL bs (some ((i : Int) + 1)) none).map vD)) = _
      rw [show ((i : Int) + 1) = ((i + 1 : Nat) : Int) from rfl, cut_from]))) rfl rfl))
  rw [e] at key
  exact fn_rt (ret_of (tup_of key (by rw [List.length_map, fl_len]; omega)))
theorem way_ok : ∀ i : Nat, i < 13 → ∀ s : Tau, f_need_way [.str (wy i)] s = some ((.non, false), s)
  | 0, _, s | 1, _, s | 2, _, s | 3, _, s | 4, _, s | 5, _, s | 6, _, s | 7, _, s | 8, _, s | 9, _, s | 10, _, s | 11, _, s | 12, _, s => by kernel_rfl
  | n + 13, h, _ => absurd h (by omega)
theorem need_row_ok {bs : List Bool} (h0 : bs ≠ []) (hl : bs.length ≤ 12) (s : Tau) : f_need_row [row bs] s = some ((.non, false), s) := by
  have hp : 0 < bs.length := List.length_pos_iff.mpr h0
  have hlen : dCallB lenD (dCons (dVar 0) dNil) [.im (row bs), .un] s = some (.int bs.length, s) := callB_of (one_of rfl) (len_row bs)
  obtain ⟨ρ2, s2, h2, h3, rfl⟩ := for_nx (it := dRng1 (dCons (dCallB lenD (dCons (dVar 0) dNil)) dNil)) (g := gdName 1) (b := dIfS (dNot (dB (dCall f_is_voice (dCons (dOp ixD (dVar 0) (dVar 1)) dNil)))) dNever dNext) (s1 := s) (fun t => t = s) (fun ρ => ∃ z, ρ = [.im (row bs), z]) (rng1_of (one_of hlen) (by omega)) ⟨_, rfl⟩ rfl (fun x hx ρ t hj ht => by
    obtain ⟨i, hi, rfl⟩ := List.mem_map.mp hx
    have hi := List.mem_range.mp hi
    obtain ⟨z, rfl⟩ := hj
    obtain ⟨b, hb⟩ : ∃ b, bs[i]? = some b := ⟨_, List.getElem?_eq_getElem hi⟩
    exact ⟨_, _, t, rfl, ifF (Dl.not_of (b_of (call_of (one_of (op_of rfl rfl (ix_row ((at_nat bs i).trans hb)))) (voice_ok b t)))) rfl, ⟨_, rfl⟩, ht⟩)
  refine fn_nx (seq_ifF (s1 := s2) (orF_of (s1 := s2) rfl (Dl.not_of (b := true) (b_of ?_))) h2)
  have := chain_val (f := leD) (g := leD) (da := dC (.int 1)) (db := dCallB lenD (dCons (dVar 0) dNil)) (dc := dC c_MOST_ROW) (ρ := [.im (row bs), .un]) (b := decide ((1 : Int) ≤ bs.length)) (c := decide ((bs.length : Int) ≤ 12)) (s1 := s2) rfl hlen rfl rfl rfl
  exact this.trans (by rw [decide_eq_true (by omega), decide_eq_true (by omega)]; rfl)
theorem both_ok {i : Nat} (hi : i < 13) {bs : List Bool} (h0 : bs ≠ []) (hl : bs.length ≤ 12) (s : Tau) : f_need_both [.str (wy i), row bs] s = some ((.non, false), s) :=
  fn_nx (seq_nx (drop_of (call_of (one_of rfl) (way_ok i hi s))) (drop_of (call_of (one_of rfl) (need_row_ok h0 hl s))))
theorem joined_ok {bs : List Bool} (hl : bs.length ≤ 1000) (s : Tau) : f_joined [row bs] s = some ((.tup ((jn bs).map vD), false), s) := by
  have key := lc_map (g := gdTup 2 (gdCons (gdName 1) (gdCons (gdName 2) gdNil))) (di := dEnT (dCons (dVar 0) dNil)) (bt := dOr (dB (dOp eqD (dVar 1) (dC (.int 0)))) (dB (dOp neD (dVar 2) (dOp ixD (dVar 0) (dOp subD (dVar 1) (dC (.int 1))))))) (de := dVar 2) (vs := [1, 2]) (ρ := [.im (row bs), .un, .un]) (s := s)
    (fun z : Bool × Nat => D.ktp [.int (z.2 : Nat), vD z.1]) (fun z => decide (z.2 = 0) || !(z.1 == (bs[z.2 - 1]?.getD true))) (fun z => vD z.1) bs.zipIdx ((enT_of (one_of rfl) rfl).trans (by rw [enumL_zip])) (by rw [List.length_zipIdx]; omega) (fun z hz => by
      obtain ⟨b, i⟩ := z
      refine ⟨_, rfl, or_val (b_of ((op_of rfl rfl (eqD_int _ _)).trans ?_)) (fun hz => ?_), fun _ => rfl⟩
      · show some (D.bl ((i : Int) == 0), s) = some (D.bl (decide (i = 0)), s)
        by_cases e : i = 0
        · subst e; rfl
        · rw [decide_eq_false e, beq_eq_false_iff_ne.mpr (show (i : Int) ≠ 0 by omega)]
      · have ne : i ≠ 0 := of_decide_eq_false hz
        have hi : i < 0 + bs.length := (List.mem_zipIdx ‹_›).2.1
        obtain ⟨c, hc⟩ : ∃ c, bs[i - 1]? = some c := ⟨_, List.getElem?_eq_getElem (by omega)⟩
        refine b_of (op_of (y := vD c) rfl (op_of rfl (op_of rfl rfl rfl) (ix_row ?_)) ((ne_v b c).trans ?_))
        · show atI bs ((i : Int) - 1) = _
          rw [show ((i : Int) - 1) = ((i - 1 : Nat) : Int) by omega, at_nat, hc]
        · show _ = some (D.bl (!(b == (bs[i - 1]?.getD true))))
          rw [hc]; rfl)
  refine fn_rt (ret_of (callB_of (xs := [.lst ((jn bs).map vD)]) (one_of (key.trans ?_)) rfl))
  rw [← jn_zip bs, List.map_map]; rfl
end Rk11
end
section
set_option Elab.async false
set_option linter.all false
set_option maxRecDepth 100000
set_option maxHeartbeats 4000000
open PySem L2 Dl PyProof.Rows
namespace Rk11
section
variable {bs : List Bool} (h0 : bs ≠ []) (s : Tau)
include h0
theorem most_ok : ∀ i : Nat, 8 ≤ i → i < 12 → f_most_of [.str (wy i), row bs] s = some ((vD (an i bs), false), s) := by
  have hp : ∀ w : D, dPar 2 3 (dCons (dOp countD (dVar 1) (dC c_ALLOW)) (dCons (dOp countD (dVar 1) (dC c_DENY)) dNil)) [.im w, .im (row bs), .un, .un] s = some (.nx [.im w, .im (row bs), .im (.int (bs.count true : Nat)), .im (.int (bs.count false : Nat))], s) := fun w =>
    par_of (cons_of (op_of rfl rfl (count_row bs true)) (one_of (op_of rfl rfl (count_row bs false))))
  by_cases h : bs.count true = bs.count false
  · have hif : ∀ w : D, dB (dOp neD (dVar 2) (dVar 3)) [.im w, .im (row bs), .im (.int (bs.count true : Nat)), .im (.int (bs.count false : Nat))] s = some (false, s) := fun w => by
      rw [h]; exact b_of (op_of rfl rfl (ne_int_self _))
    intro i h1 h2
    match i, h1, h2 with
    | 8, _, _ => rw [show an 8 bs = true from mo_eq h true]; exact fn_rt (sN (hp _) (sF (hif _) (sF (by kernel_rfl) (ret_of (iT (by kernel_rfl) rfl)))))
    | 9, _, _ => rw [show an 9 bs = false from mo_eq h false]; exact fn_rt (sN (hp _) (sF (hif _) (sF (by kernel_rfl) (ret_of (iF (by kernel_rfl) rfl)))))
    | 10, _, _ => rw [show an 10 bs = hd bs from mo_eq h (hd bs)]; exact fn_rt (sN (hp _) (sF (hif _) (sT (by kernel_rfl) (ret_of (iT (by kernel_rfl) (op_of rfl rfl (ix_row (at_hd h0))))))))
    | 11, _, _ => rw [show an 11 bs = ls bs from mo_eq h (ls bs)]; exact fn_rt (sN (hp _) (sF (hif _) (sT (by kernel_rfl) (ret_of (iF (by kernel_rfl) (op_of rfl rfl (ix_row (at_ls h0))))))))
  · have e : ∀ i : Nat, 8 ≤ i → i < 12 → an i bs = decide (bs.count false < bs.count true) := fun i h1 h2 => by
      match i, h1, h2 with
      | 8, _, _ => exact mo_ne h _
      | 9, _, _ => exact mo_ne h _
      | 10, _, _ => exact mo_ne h _
      | 11, _, _ => exact mo_ne h _
    intro i h1 h2
    rw [e i h1 h2]
    exact fn_rt (sN (hp _) (sT (b_of (op_of rfl rfl (ne_int h))) (ret_of (call_of (one_of (op_of rfl rfl (gt_nat _ _))) (said_ok _ s)))))
theorem answer_of_ok (hl : bs.length ≤ 12) : ∀ i : Nat, i < 13 → f_answer_of [.str (wy i), row bs] s = some ((vD (an i bs), false), s)
  | 0, _ => fn_rt (sF (by kernel_rfl) (sF (by kernel_rfl) (sT (by kernel_rfl) (ret_of (call_of (one_of (iT (by kernel_rfl) (op_of (y := row bs) rfl rfl (congrArg (Option.map D.bl) (in_row bs true))))) (said_ok _ s))))))
  | 1, _ => fn_rt (sF (by kernel_rfl) (sF (by kernel_rfl) (sF (by kernel_rfl) (sF (by kernel_rfl) (sF (by kernel_rfl) (sF (by kernel_rfl) (ret_of (call_of (one_of (by kernel_rfl)) (said_ok true s)))))))))
  | 2, _ => fn_rt (sF (by kernel_rfl) (sF (by kernel_rfl) (sF (by kernel_rfl) (sF (by kernel_rfl) (sF (by kernel_rfl) (sF (by kernel_rfl) (ret_of (call_of (one_of (by kernel_rfl)) (said_ok false s)))))))))
  | 3, _ => fn_rt (sF (by kernel_rfl) (sF (by kernel_rfl) (sF (by kernel_rfl) (sF (by kernel_rfl) (sT (by kernel_rfl) (ret_of (call_of (one_of (andV_val (op_of (op_of rfl rfl (ix_row (at_hd h0))) rfl ((eq_v (hd bs) true).trans (by rw [beq_true]))) fun _ => op_of (op_of rfl rfl (ix_row (at_ls h0))) rfl ((eq_v (ls bs) true).trans (by rw [beq_true])))) (said_ok _ s))))))))
  | 4, _ => fn_rt (sF (by kernel_rfl) (sF (by kernel_rfl) (sT (by kernel_rfl) (ret_of (call_of (one_of (iF (by kernel_rfl) (op_of (y := row bs) rfl rfl (congrArg (Option.map fun b => D.bl (!b)) (in_row bs false))))) (said_ok _ s))))))
  | 5, _ => fn_rt (sF (by kernel_rfl) (sT (by kernel_rfl) (ret_of (iT (by kernel_rfl) (op_of rfl rfl (ix_row (at_hd h0)))))))
  | 6, _ => by
    have e : inB (.tup ((jn bs).map vD)) (.tup [.tup [c_ALLOW], .tup [c_DENY, c_ALLOW, c_DENY]]) = some (isl bs) := by
      rw [← isl_jn bs h0]
      have cj : convL ((jn bs).map vD) = some ((jn bs).map fun b => PyData.str (vs b)) := convL_map vD (fun b => PyData.str (vs b)) (fun _ => rfl) _
      have sj : SeqAt.shaped (.tuple ((jn bs).map fun b => PyData.str (vs b))) = true := by
        have := shaped_strsT (vs_all (jn bs))
        rw [List.map_map] at this
        exact this
      unfold inB
      show (((convL ((jn bs).map vD)).map PyData.tuple).bind fun x => _) = _
      rw [cj]
      show (if (SeqAt.shaped (.tuple ((jn bs).map fun b => PyData.str (vs b))) && SeqAt.shaped (.list [.tuple [.str (vs true)], .tuple [.str (vs false), .str (vs true), .str (vs false)]]) && SeqAt.shaped (.tuple [.tuple [.str (vs true)], .tuple [.str (vs false), .str (vs true), .str (vs false)]])) = true then some (PyData.eqvAll [.str (vs true)] ((jn bs).map fun b => PyData.str (vs b)) || (PyData.eqvAll [.str (vs false), .str (vs true), .str (vs false)] ((jn bs).map fun b => PyData.str (vs b)) || false)) else none) = _
      rw [sj, if_pos (by decide +kernel)]
      have q : ∀ xs ys : List Bool, PyData.eqvAll (xs.map fun b => PyData.str (vs b)) (ys.map fun b => PyData.str (vs b)) = (ys == xs) := fun xs => by
        induction xs with
        | nil => intro ys; cases ys <;> rfl
        | cons x xs ih =>
          intro ys
          cases ys with
          | nil => rfl
          | cons y ys =>
            show ((vs x == vs y) && PyData.eqvAll (xs.map fun b => PyData.str (vs b)) (ys.map fun b => PyData.str (vs b))) = (y == x && ys == xs)
            rw [ih ys, vs_eq, show (x == y) = (y == x) from BEq.comm]
      have q1 := q [true] (jn bs)
      have q2 := q [false, true, false] (jn bs)
      rw [Bool.or_false]
      exact congrArg some (congr (congrArg or q1) q2)
    exact fn_rt (sF (by kernel_rfl) (sF (by kernel_rfl) (sF (by kernel_rfl) (sF (by kernel_rfl) (sF (by kernel_rfl) (sT (by kernel_rfl) (ret_of (call_of (one_of (op_of (call_of (one_of rfl) (joined_ok (by omega) s)) (tup_of (cons_of (tup_of (one_of rfl) (by decide)) (one_of (tup_of (cons_of rfl (cons_of rfl (one_of rfl))) (by decide)))) (by decide)) (congrArg (Option.map D.bl) e))) (said_ok _ s)))))))))
  | 7, _ => fn_rt (sF (by kernel_rfl) (sT (by kernel_rfl) (ret_of (iF (by kernel_rfl) (op_of rfl rfl (ix_row (at_ls h0)))))))
  | 8, _ => fn_rt (sT (by kernel_rfl) (ret_of (call_of (cons_of rfl (one_of rfl)) (most_ok h0 s 8 (by decide) (by decide)))))
  | 9, _ => fn_rt (sT (by kernel_rfl) (ret_of (call_of (cons_of rfl (one_of rfl)) (most_ok h0 s 9 (by decide) (by decide)))))
  | 10, _ => fn_rt (sT (by kernel_rfl) (ret_of (call_of (cons_of rfl (one_of rfl)) (most_ok h0 s 10 (by decide) (by decide)))))
  | 11, _ => fn_rt (sT (by kernel_rfl) (ret_of (call_of (cons_of rfl (one_of rfl)) (most_ok h0 s 11 (by decide) (by decide)))))
  | 12, _ => fn_rt (sF (by kernel_rfl) (sF (by kernel_rfl) (sF (by kernel_rfl) (sT (by kernel_rfl) (ret_of (call_of (one_of (op_of (op_of (op_of rfl rfl (count_row bs false)) rfl rfl) rfl ((eqD_int _ _).trans (by
      show some (D.bl (((bs.count false : Nat) : Int) % 2 == 0)) = some (D.bl (decide (bs.count false % 2 = 0)))
      by_cases z : bs.count false % 2 = 0
      · rw [decide_eq_true z, beq_iff_eq.mpr (show ((bs.count false : Nat) : Int) % 2 = 0 by omega)]
      · rw [decide_eq_false z, beq_eq_false_iff_ne.mpr (show ((bs.count false : Nat) : Int) % 2 ≠ 0 by omega)])))) (said_ok _ s)))))))
  | n + 13, h => absurd h (by omega)
end
end Rk11
end
section
set_option Elab.async false
set_option linter.all false
set_option maxRecDepth 100000
set_option maxHeartbeats 4000000
open PySem L2 Dl PyProof.Rows
namespace Rk11
/-- the places where a turned voice turns the answer -/
def mt (i : Nat) (bs : List Bool) : List Nat := (List.range bs.length).filter fun j => !(an i (fl bs j) == an i bs)
theorem fl_ne {bs : List Bool} (h : bs ≠ []) (j : Nat) : fl bs j ≠ [] := fun e => by
  have := fl_len bs j
  rw [e] at this
  exact h (List.length_eq_zero_iff.mp this.symm)
theorem answer_ok {i : Nat} (hi : i < 13) {bs : List Bool} (h0 : bs ≠ []) (hl : bs.length ≤ 12) (s : Tau) : f_answer [.str (wy i), row bs] s = some ((vD (an i bs), false), s) :=
  fn_rt (sN (drop_of (call_of (cons_of rfl (one_of rfl)) (both_ok hi h0 hl s))) (ret_of (call_of (cons_of rfl (one_of rfl)) (answer_of_ok h0 s hl i hi))))
theorem matters_ok {i : Nat} (hi : i < 13) {bs : List Bool} (h0 : bs ≠ []) (hl : bs.length ≤ 12) (s : Tau) : f_matters [.str (wy i), row bs] s = some ((.tup ((mt i bs).map fun j : Nat => D.int j), false), s) := by
  have lc := lc_map (g := gdName 3) (di := dRng1 (dCons (dCallB lenD (dCons (dVar 1) dNil)) dNil)) (bt := dB (dOp neD (dCall f_answer_of (dCons (dVar 0) (dCons (dCall f_turned_at (dCons (dVar 1) (dCons (dVar 3) dNil))) dNil))) (dVar 2))) (de := dVar 3) (vs := [3])
    (ρ := [.im (.str (wy i)), .im (row bs), .im (vD (an i bs)), .un]) (s := s) (fun j : Nat => D.int j) (fun j => !(an i (fl bs j) == an i bs)) (fun j : Nat => D.int j) (List.range bs.length)
    (rng1_of (one_of (callB_of (one_of rfl) (len_row bs))) (by omega)) (by rw [List.length_range]; omega) (fun j hj => by
      have hj := List.mem_range.mp hj
      obtain ⟨b, hb⟩ : ∃ b, bs[j]? = some b := ⟨_, List.getElem?_eq_getElem hj⟩
      exact ⟨_, rfl, b_of (op_of (call_of (cons_of rfl (one_of (call_of (cons_of rfl (one_of rfl)) (turned_at_ok (by omega) hb s)))) (answer_of_ok (fl_ne h0 j) s (by rw [fl_len]; exact hl) i hi)) rfl (ne_v _ _)), fun _ => rfl⟩)
  exact fn_rt (sN (drop_of (call_of (cons_of rfl (one_of rfl)) (both_ok hi h0 hl s))) (sN (asg_of (call_of (cons_of rfl (one_of rfl)) (answer_of_ok h0 s hl i hi))) (ret_of (callB_of (one_of lc) rfl))))
theorem lrow_ok (s : Tau) (hs : 0 ≤ s.a) : ∃ bs s', f__law_row [.rw, .int 12] s = some ((.str (tx bs), false), s') ∧ bs ≠ [] ∧ bs.length ≤ 12 ∧ 0 ≤ s'.a := by
  obtain ⟨d, s1, h1, h2, h3, h4⟩ := taken_ok s hs 12 (by decide) (by decide)
  obtain ⟨ds, s2, h5, h6, h7, h8⟩ := lc_thread (g := gdName 2) (di := dRng1 (dCons (dOp addD (dC (.int 1)) (dCall f__law_taken (dCons (dVar 0) (dCons (dVar 1) dNil)))) dNil)) (de := dCall f__law_pick (dCons (dVar 0) (dCons (dLst (dCons (dC (.str "+")) (dCons (dC (.str "-")) dNil))) dNil))) (vs := [2])
    (ρ := [.im .rw, .im (.int 12), .un]) (s := s) (fun t => 0 ≤ t.a) (fun d => ∃ b, d = gD b) (xs := (List.range (1 + d.toNat)).map fun i : Nat => D.int i) (s1 := s1)
    (rng1_of (one_of (op_of rfl (call_of (cons_of rfl (one_of rfl)) h1) (by show some (D.int (1 + d)) = _; rw [show 1 + d = ((1 + d.toNat : Nat) : Int) by omega]))) (by omega)) (by rw [List.length_map, List.length_range]; omega) h4 (fun x hx t ht => by
      obtain ⟨e, s', q1, q2, q3⟩ := pick_ok t ht [gD true, gD false] (by simp) (by show 2 ≤ 1000000; decide)
      refine ⟨_, e, s', rfl, call_of (cons_of rfl (one_of (lst_of (cons_of rfl (one_of rfl)) (by show 2 ≤ 1000000; decide)))) q1, ?_, q3⟩
      rcases List.mem_cons.mp q2 with rfl | q2
      · exact ⟨_, rfl⟩
      · rw [List.mem_singleton] at q2
        exact ⟨_, q2⟩)
  have key : ∀ ds : List D, (∀ d ∈ ds, ∃ b, d = gD b) → ∃ bs : List Bool, ds = bs.map gD := fun ds => by
    induction ds with
    | nil => exact fun _ => ⟨[], rfl⟩
    | cons x xs ih =>
      intro h
      obtain ⟨b, rfl⟩ := h x List.mem_cons_self
      obtain ⟨bs, rfl⟩ := ih fun z hz => h z (List.mem_cons_of_mem _ hz)
      exact ⟨b :: bs, rfl⟩
  obtain ⟨bs, rfl⟩ := key ds h7
  rw [List.length_map, List.length_map, List.length_range] at h6
  refine ⟨bs, s2, fn_rt (ret_of (methS_of rfl (one_of h5) (join_g (by omega)))), ?_, by omega, h8⟩
  intro e
  rw [e] at h6
  exact absurd h6 (by show ¬(0 = 1 + d.toNat); omega)
theorem ways_in : ∀ d ∈ wys.map D.str, ∃ i, i < 13 ∧ d = .str (wy i) := fun d h => by
  obtain ⟨x, hx, rfl⟩ := List.mem_map.mp h
  obtain ⟨i, hi, e⟩ := List.mem_iff_getElem.mp hx
  refine ⟨i, hi, ?_⟩
  unfold wy
  rw [List.getD_eq_getElem?_getD, List.getElem?_eq_getElem hi, e]; rfl
theorem lways_ok (s : Tau) : f__law_ways [] s = some ((.lst (wys.map D.str), false), s) := by kernel_rfl
end Rk11
end
section
set_option Elab.async false
set_option linter.all false
set_option maxRecDepth 100000
set_option maxHeartbeats 4000000
open PySem L2 Dl PyProof.Rows
namespace Rk11
theorem chain3_val {f g h : D → D → Option D} {da db dc dd : Dn} {ρ : List Sl} {s : Tau} {x y w u : D} {b c d : Bool} (h1 : da ρ s = some (x, s)) (h2 : db ρ s = some (y, s)) (h3 : f x y = some (.bl b)) (h4 : dc ρ s = some (w, s)) (h5 : g y w = some (.bl c)) (h6 : dd ρ s = some (u, s)) (h7 : h w u = some (.bl d)) :
    dChain3 f g h da db dc dd ρ s = some (.bl (b && (c && d)), s) := by
  unfold dChain3
  rw [h1]
  show Option.bind (db ρ s) _ = _
  rw [h2]
  show Option.bind (f x y) _ = _
  rw [h3]
  cases b with
  | false => rfl
  | true =>
    show Option.bind (dc ρ s) _ = _
    rw [h4]
    show Option.bind (g y w) _ = _
    rw [h5]
    cases c with
    | false => rfl
    | true =>
      show Option.bind (dd ρ s) _ = _
      rw [h6]
      show Option.map _ (h w u) = _
      rw [h7]; rfl
theorem dec_nat {a b : Int} {P : Prop} [Decidable P] (h : a = b ↔ P) : (a == b) = decide P := by
  by_cases z : P
  · rw [decide_eq_true z, beq_iff_eq.mpr (h.mpr z)]
  · rw [decide_eq_false z, beq_eq_false_iff_ne.mpr fun q => z (h.mp q)]
theorem island_q (L l r : Nat) (s : Tau) : f_is_island [.int (l : Nat), .int (r : Nat), .int (L : Nat)] s = some ((.bl (decide (1 ≤ l) && (decide (l ≤ r) && decide (r + 2 ≤ L))), false), s) := by
  have e1 : leD (.int 1) (.int (l : Nat)) = some (.bl (decide (1 ≤ l))) := by
    show some (D.bl (decide ((1 : Int) ≤ (l : Nat)))) = _
    rw [show decide ((1 : Int) ≤ (l : Nat)) = decide (1 ≤ l) from decide_eq_decide.mpr (by omega)]
  have e2 : leD (.int (l : Nat)) (.int (r : Nat)) = some (.bl (decide (l ≤ r))) := by
    show some (D.bl (decide (((l : Nat) : Int) ≤ (r : Nat)))) = _
    rw [show decide (((l : Nat) : Int) ≤ (r : Nat)) = decide (l ≤ r) from decide_eq_decide.mpr (by omega)]
  have e3 : leD (.int (r : Nat)) (.int ((L : Nat) - 2)) = some (.bl (decide (r + 2 ≤ L))) := by
    show some (D.bl (decide (((r : Nat) : Int) ≤ (L : Nat) - 2))) = _
    rw [show decide (((r : Nat) : Int) ≤ (L : Nat) - 2) = decide (r + 2 ≤ L) from decide_eq_decide.mpr (by omega)]
  exact fn_rt (ret_of (chain3_val rfl rfl e1 rfl e2 (op_of rfl rfl rfl) e3))
theorem stays_ok (L l r p : Nat) (s : Tau) : f_stays [.int (l : Nat), .int (r : Nat), .int (p : Nat), .int (L : Nat)] s = some ((.bl (st L l r p), false), s) := by
  have t1 : dOr (dB (dOp eqD (dVar 2) (dOp subD (dVar 0) (dC (.int 1))))) (dB (dOp eqD (dVar 2) (dOp addD (dVar 1) (dC (.int 1))))) [.im (.int (l : Nat)), .im (.int (r : Nat)), .im (.int (p : Nat)), .im (.int (L : Nat))] s = some (decide (p + 1 = l) || decide (p = r + 1), s) :=
    or_val (b_of (op_of rfl (op_of rfl rfl rfl) ((eqD_int _ _).trans (by rw [dec_nat (P := p + 1 = l) (by omega)])))) fun _ => b_of (op_of rfl (op_of rfl rfl rfl) ((eqD_int _ _).trans (by rw [dec_nat (P := p = r + 1) (by omega)])))
  by_cases h : p + 1 = l ∨ p = r + 1
  · have e : (decide (p + 1 = l) || decide (p = r + 1)) = true := by rw [← Bool.decide_or]; exact decide_eq_true h
    rw [e] at t1
    have es : st L l r p = (decide (1 ≤ min l p) && (decide (min l p ≤ max r p) && decide (max r p + 2 ≤ L))) := if_pos h
    rw [es]
    have m1 : minD [.int (l : Nat), .int (p : Nat)] = some (.int (min l p : Nat)) := by
      show some (D.int (if ((p : Nat) : Int) < (l : Nat) then ((p : Nat) : Int) else (l : Nat))) = _
      by_cases z : p < l
      · rw [if_pos (by omega), Nat.min_eq_right (by omega)]
      · rw [if_neg (by omega), Nat.min_eq_left (by omega)]
    have m2 : maxD [.int (r : Nat), .int (p : Nat)] = some (.int (max r p : Nat)) := by
      show some (D.int (if ((p : Nat) : Int) > (r : Nat) then ((p : Nat) : Int) else (r : Nat))) = _
      by_cases z : r < p
      · rw [if_pos (by omega), Nat.max_eq_right (by omega)]
      · rw [if_neg (by omega), Nat.max_eq_left (by omega)]
    exact fn_rt (sT t1 (ret_of (call_of (cons_of (callB_of (cons_of rfl (one_of rfl)) m1) (cons_of (callB_of (cons_of rfl (one_of rfl)) m2) (one_of rfl))) (island_q L _ _ s))))
  · have e : (decide (p + 1 = l) || decide (p = r + 1)) = false := by rw [← Bool.decide_or]; exact decide_eq_false h
    rw [e] at t1
    have es : st L l r p = (decide (l < r) && (p == l || p == r)) := if_neg h
    rw [es]
    have i1 : inD (.int (p : Nat)) (.tup [.int (l : Nat), .int (r : Nat)]) = some (.bl (p == l || p == r)) := by
      show some (D.bl (((l : Nat) : Int) == (p : Nat) || (((r : Nat) : Int) == (p : Nat) || false))) = _
      rw [Bool.or_false, dec_nat (P := p = l) (by omega), dec_nat (P := p = r) (by omega)]
      have k : ∀ a b : Nat, (a == b) = decide (a = b) := fun a b => by
        by_cases z : a = b
        · rw [decide_eq_true z, beq_iff_eq.mpr z]
        · rw [decide_eq_false z, beq_eq_false_iff_ne.mpr z]
      rw [k, k]
    have l1 : ltA (.int (l : Nat)) (.int (r : Nat)) = some (.bl (decide (l < r))) := by
      show some (D.bl (decide (((l : Nat) : Int) < (r : Nat)))) = _
      rw [show decide (((l : Nat) : Int) < (r : Nat)) = decide (l < r) from decide_eq_decide.mpr (by omega)]
    have t2 : dAnd (dB (dOp ltA (dVar 0) (dVar 1))) (dB (dOp inD (dVar 2) (dTup (dCons (dVar 0) (dCons (dVar 1) dNil))))) [.im (.int (l : Nat)), .im (.int (r : Nat)), .im (.int (p : Nat)), .im (.int (L : Nat))] s = some (decide (l < r) && (p == l || p == r), s) :=
      and_val (b_of (op_of rfl rfl l1)) fun _ => b_of (op_of rfl (tup_of (cons_of rfl (one_of rfl)) (by show 2 ≤ 1000000; decide)) i1)
    cases q : (decide (l < r) && (p == l || p == r)) with
    | true => rw [q] at t2; exact fn_rt (sF t1 (sT t2 (ret_of rfl)))
    | false => rw [q] at t2; exact fn_rt (sF t1 (sF t2 (ret_of rfl)))
def fo (L : Nat) (F : Nat → Nat) : D := .lst ((List.range L).map fun p => D.int (F p : Nat))
theorem pre_len {n : Nat} {pre : List Nat} {y : Nat} {post : List Nat} (e : List.range n = pre ++ y :: post) : y = pre.length ∧ y < n := by
  have h : (List.range n)[pre.length]? = some y := by rw [e]; simp
  have hl := (List.getElem?_eq_some_iff.mp h).1
  rw [List.length_range] at hl
  rw [List.getElem?_range hl] at h
  cases h
  exact ⟨rfl, hl⟩
theorem step_ok (L l r : Nat) (hL : L ≤ 1000) (F : Nat → Nat) (a b : Sl) (s : Tau) : dLc (dEnL (dCons (dVar 1) dNil)) (gdTup 2 (gdCons (gdName 4) (gdCons (gdName 5) gdNil))) dYes (dOp addD (dVar 5) (dIf (dB (dCall f_stays (dCons (dVar 2) (dCons (dVar 3) (dCons (dVar 4) (dCons (dVar 0) dNil)))))) (dC (.int 0)) (dC (.int 2)))) [4, 5]
    [.im (.int (L : Nat)), .im (fo L F), .im (.int (l : Nat)), .im (.int (r : Nat)), a, b] s = some (fo L fun p => F p + o1 L p l r, s) := by
  have key := lc_all (g := gdTup 2 (gdCons (gdName 4) (gdCons (gdName 5) gdNil))) (di := dEnL (dCons (dVar 1) dNil)) (de := dOp addD (dVar 5) (dIf (dB (dCall f_stays (dCons (dVar 2) (dCons (dVar 3) (dCons (dVar 4) (dCons (dVar 0) dNil)))))) (dC (.int 0)) (dC (.int 2)))) (vs := [4, 5]) (ρ := [.im (.int (L : Nat)), .im (fo L F), .im (.int (l : Nat)), .im (.int (r : Nat)), a, b]) (s := s)
    (fun z : Nat × Nat => D.ktp [.int (z.2 : Nat), .int (F z.1 : Nat)]) (fun z => D.int (F z.1 + o1 L z.1 l r : Nat)) (List.range L).zipIdx (by
      show some (enumL 0 ((List.range L).map fun p => D.int (F p : Nat)), s) = _
      rw [enumL_zip]) (by rw [List.length_zipIdx, List.length_range]; omega) (fun z hz => by
      obtain ⟨p, k⟩ := z
      obtain ⟨_, h2, h3⟩ := List.mem_zipIdx hz
      rw [List.length_range] at h2
      have hp : p = k := by
        rw [List.getElem_range] at h3
        omega
      subst hp
      refine ⟨_, rfl, op_of rfl (ifE_val (b_of (call_of (cons_of rfl (cons_of rfl (cons_of rfl (one_of rfl)))) (stays_ok L l r p s))) rfl rfl) ?_⟩
      show addD (.int (F p : Nat)) (if st L l r p = true then D.int 0 else D.int 2) = some (D.int (F p + o1 L p l r : Nat))
      unfold o1
      cases st L l r p <;> rfl)
  refine key.trans ?_
  unfold fo
  have e : ((List.range L).zipIdx.map fun z => D.int (F z.1 + o1 L z.1 l r : Nat)) = (List.range L).map fun p => D.int (F p + o1 L p l r : Nat) := by
    have := congrArg (List.map fun p => D.int (F p + o1 L p l r : Nat)) (List.zipIdx_map_fst 0 (List.range L))
    rw [List.map_map] at this
    exact this
  rw [e]
theorem island_ok (L : Nat) (h1 : 1 ≤ L) (h2 : L ≤ 60) (s : Tau) : f_island_power [.int (L : Nat)] s = some ((fo L (isP L), false), s) := by
  have hm : mulD (.lst [.int 2]) (.int (L : Nat)) = some (fo L fun _ => 2) := by
    show (if decide ((0 : Int) ≤ (L : Nat) ∧ ((L : Nat) : Int) ≤ 1000 ∧ 1 ≤ 1000) = true then some (D.lst (List.replicate ((L : Nat) : Int).toNat [D.int 2]).flatten) else none) = _
    rw [if_pos (decide_eq_true ⟨by omega, by omega, by decide⟩), Int.toNat_natCast]
    unfold fo
    have : ∀ n : Nat, (List.replicate n [D.int 2]).flatten = (List.range n).map fun _ => D.int 2 := fun n => by
      induction n with
      | zero => rfl
      | succ n ih => rw [List.replicate_succ', List.flatten_append, ih, List.range_succ, List.map_append]; rfl
    rw [this]; rfl
  have hi : ∀ (a b c d e f : Sl), dRng2 (dCons (dC (.int 1)) (dCons (dOp subD (dVar 0) (dC (.int 1))) dNil)) [.im (.int (L : Nat)), a, b, c, d, e] s = some ((List.range (L - 2)).map (fun i : Nat => D.int (1 + i : Nat)), s) := fun a b c d e f => by
    have := rng2_of (ax := dCons (dC (.int 1)) (dCons (dOp subD (dVar 0) (dC (.int 1))) dNil)) (ρ := [.im (.int (L : Nat)), a, b, c, d, e]) (s := s) (s1 := s) (m := 1) (n := L - 1) (cons_of rfl (one_of (op_of rfl rfl (by
      show some (D.int (((L : Nat) : Int) - 1)) = _
      rw [show ((L : Nat) : Int) - 1 = ((L - 1 : Nat) : Int) by omega])))) (by decide) (by omega)
    rw [show L - 1 - 1 = L - 2 by omega] at this
    exact this
  obtain ⟨ρ2, s2, q1, q2⟩ := for_pre (it := dRng2 (dCons (dC (.int 1)) (dCons (dOp subD (dVar 0) (dC (.int 1))) dNil))) (g := gdName 2) (ρ := [.im (.int (L : Nat)), .im (fo L fun _ => 2), .un, .un, .un, .un]) (s := s) (s1 := s)
    (b := dFor (dRng2 (dCons (dVar 2) (dCons (dOp subD (dVar 0) (dC (.int 1))) dNil))) (gdName 3) (dAsg (dLc (dEnL (dCons (dVar 1) dNil)) (gdTup 2 (gdCons (gdName 4) (gdCons (gdName 5) gdNil))) dYes (dOp addD (dVar 5) (dIf (dB (dCall f_stays (dCons (dVar 2) (dCons (dVar 3) (dCons (dVar 4) (dCons (dVar 0) dNil)))))) (dC (.int 0)) (dC (.int 2)))) [4, 5]) (gdName 1)))
    (fun i : Nat => D.int (1 + i : Nat)) (fun pre ρ t => t = s ∧ ∃ a b c d, ρ = [.im (.int (L : Nat)), .im (fo L fun p => 2 + Sm1 pre.length fun i => Sm1 (L - 1 - (1 + i)) fun k => o1 L p (1 + i) (1 + i + k)), a, b, c, d]) (List.range (L - 2)) (hi _ _ _ _ _ .un) ⟨rfl, .un, .un, .un, .un, rfl⟩ (fun pre y post e ρ t hj => by
      obtain ⟨rfl, a, b, c, d, rfl⟩ := hj
      obtain ⟨ey, hy⟩ := pre_len e
      obtain ⟨ρ3, s3, q3, q4⟩ := for_pre (it := dRng2 (dCons (dVar 2) (dCons (dOp subD (dVar 0) (dC (.int 1))) dNil))) (g := gdName 3) (ρ := [.im (.int (L : Nat)), .im (fo L fun p => 2 + Sm1 pre.length fun i => Sm1 (L - 1 - (1 + i)) fun k => o1 L p (1 + i) (1 + i + k)), .im (.int (1 + y : Nat)), b, c, d]) (s := t) (s1 := t)
        (b := dAsg (dLc (dEnL (dCons (dVar 1) dNil)) (gdTup 2 (gdCons (gdName 4) (gdCons (gdName 5) gdNil))) dYes (dOp addD (dVar 5) (dIf (dB (dCall f_stays (dCons (dVar 2) (dCons (dVar 3) (dCons (dVar 4) (dCons (dVar 0) dNil)))))) (dC (.int 0)) (dC (.int 2)))) [4, 5]) (gdName 1))
        (fun i : Nat => D.int (1 + y + i : Nat)) (fun q ρ u => u = t ∧ ∃ b c d, ρ = [.im (.int (L : Nat)), .im (fo L fun p => (2 + Sm1 pre.length fun i => Sm1 (L - 1 - (1 + i)) fun k => o1 L p (1 + i) (1 + i + k)) + Sm1 q.length fun k => o1 L p (1 + y) (1 + y + k)), .im (.int (1 + y : Nat)), b, c, d]) (List.range (L - 1 - (1 + y)))
        (rng2_of (m := 1 + y) (n := L - 1) (cons_of rfl (one_of (op_of rfl rfl (by
          show some (D.int (((L : Nat) : Int) - 1)) = _
          rw [show ((L : Nat) : Int) - 1 = ((L - 1 : Nat) : Int) by omega])))) (by omega) (by omega)) ⟨rfl, b, c, d, rfl⟩ (fun q z post2 e2 ρ u hj2 => by
          obtain ⟨rfl, b, c, d, rfl⟩ := hj2
          obtain ⟨ez, hz⟩ := pre_len e2
          refine ⟨_, _, u, rfl, asg_of (step_ok L (1 + y) (1 + y + z) (by omega) _ c d u), rfl, .im (.int (1 + y + z : Nat)), c, d, ?_⟩
          have : (q ++ [z]).length = q.length + 1 := by rw [List.length_append]; rfl
          rw [this, ← ez]
          have e3 : (fun p => (2 + Sm1 pre.length fun i => Sm1 (L - 1 - (1 + i)) fun k => o1 L p (1 + i) (1 + i + k)) + Sm1 (z + 1) fun k => o1 L p (1 + y) (1 + y + k)) = fun p => ((2 + Sm1 pre.length fun i => Sm1 (L - 1 - (1 + i)) fun k => o1 L p (1 + i) (1 + i + k)) + Sm1 z fun k => o1 L p (1 + y) (1 + y + k)) + o1 L p (1 + y) (1 + y + z) := by
            funext p
            rw [sm_succ]; omega
          rw [e3]; rfl)
      obtain ⟨rfl, b2, c2, d2, rfl⟩ := q4
      refine ⟨_, _, s3, rfl, q3, rfl, .im (.int (1 + y : Nat)), b2, c2, d2, ?_⟩
      have : (pre ++ [y]).length = pre.length + 1 := by rw [List.length_append]; rfl
      rw [this, List.length_range]
      have e3 : (fun p => 2 + Sm1 (pre.length + 1) fun i => Sm1 (L - 1 - (1 + i)) fun k => o1 L p (1 + i) (1 + i + k)) = fun p => (2 + Sm1 pre.length fun i => Sm1 (L - 1 - (1 + i)) fun k => o1 L p (1 + i) (1 + i + k)) + Sm1 (L - 1 - (1 + y)) fun k => o1 L p (1 + y) (1 + y + k) := by
        funext p
        rw [sm_succ, ← ey]; omega
      rw [e3])
  obtain ⟨rfl, a, b, c, d, rfl⟩ := q2
  rw [List.length_range] at q1
  exact fn_rt (sN (asg_of (op_of (lst_of (one_of rfl) (by show 1 ≤ 1000000; decide)) rfl hm)) (sN q1 (ret_of rfl)))
end Rk11
end
section
set_option Elab.async false
set_option linter.all false
set_option maxRecDepth 100000
set_option maxHeartbeats 4000000
open PySem L2 Dl PyProof.Rows
namespace Rk11
def ch (n k : Nat) : Nat := if k ≤ n then (List.range k).foldl (fun f a => f * (n - a) / (a + 1)) 1 else 0
/-- what each voice decides, by its place -/
def pw : Nat → Nat → List Nat
  | 8, L => List.replicate L (2 * ch (L - 1) (L / 2))
  | 9, L => List.replicate L (2 * ch (L - 1) (L / 2))
  | 10, L => if L % 2 = 1 then List.replicate L (2 * ch (L - 1) (L / 2)) else (2 * ch L (L / 2)) :: List.replicate (L - 1) (2 * ((if L / 2 < 2 then 0 else ch (L - 2) (L / 2 - 2)) + ch (L - 2) (L / 2)))
  | 11, L => if L % 2 = 1 then List.replicate L (2 * ch (L - 1) (L / 2)) else List.replicate (L - 1) (2 * ((if L / 2 < 2 then 0 else ch (L - 2) (L / 2 - 2)) + ch (L - 2) (L / 2))) ++ [2 * ch L (L / 2)]
  | 3, L => if L = 1 then [2 ^ L] else (2 ^ L / 2) :: (List.replicate (L - 2) 0 ++ [2 ^ L / 2])
  | 5, L => (2 ^ L) :: List.replicate (L - 1) 0
  | 7, L => List.replicate (L - 1) 0 ++ [2 ^ L]
  | 0, L => List.replicate L 2
  | 4, L => List.replicate L 2
  | 12, L => List.replicate L (2 ^ L)
  | _, L => List.replicate L 0
def ca : Nat → Nat → Nat
  | 8, L => if L % 2 = 1 then 2 ^ (L - 1) else 2 ^ (L - 1) + ch L (L / 2) / 2
  | 9, L => if L % 2 = 1 then 2 ^ (L - 1) else 2 ^ (L - 1) - ch L (L / 2) / 2
  | 10, L => 2 ^ (L - 1)
  | 11, L => 2 ^ (L - 1)
  | 5, L => 2 ^ L / 2
  | 7, L => 2 ^ L / 2
  | 12, L => 2 ^ L / 2
  | 3, L => max 1 (2 ^ L / 4)
  | 6, L => 1 + ch (L - 1) 2
  | 0, L => 2 ^ L - 1
  | 1, L => 2 ^ L
  | 2, _ => 0
  | _, _ => 1
def GoodC (i L : Nat) : Prop := ∀ s : Tau, f_count_allowed [.str (wy i), .int (L : Nat)] s = some ((.int (ca i L : Nat), false), s)
def GoodP (i L : Nat) : Prop := ∀ s : Tau, f_power [.str (wy i), .int (L : Nat)] s = some ((.tup ((pw i L).map fun n => D.int (n : Nat)), false), s)
theorem c_0_1 : GoodC 0 1 := fun s => by kernel_rfl
theorem p_0_1 : GoodP 0 1 := fun s => by kernel_rfl
theorem c_0_2 : GoodC 0 2 := fun s => by kernel_rfl
theorem p_0_2 : GoodP 0 2 := fun s => by kernel_rfl
theorem c_0_3 : GoodC 0 3 := fun s => by kernel_rfl
theorem p_0_3 : GoodP 0 3 := fun s => by kernel_rfl
theorem c_0_4 : GoodC 0 4 := fun s => by kernel_rfl
theorem p_0_4 : GoodP 0 4 := fun s => by kernel_rfl
theorem c_0_5 : GoodC 0 5 := fun s => by kernel_rfl
theorem p_0_5 : GoodP 0 5 := fun s => by kernel_rfl
theorem c_0_6 : GoodC 0 6 := fun s => by kernel_rfl
theorem p_0_6 : GoodP 0 6 := fun s => by kernel_rfl
theorem c_0_7 : GoodC 0 7 := fun s => by kernel_rfl
theorem p_0_7 : GoodP 0 7 := fun s => by kernel_rfl
theorem c_0_8 : GoodC 0 8 := fun s => by kernel_rfl
theorem p_0_8 : GoodP 0 8 := fun s => by kernel_rfl
theorem c_0_9 : GoodC 0 9 := fun s => by kernel_rfl
theorem p_0_9 : GoodP 0 9 := fun s => by kernel_rfl
theorem c_0_10 : GoodC 0 10 := fun s => by kernel_rfl
theorem p_0_10 : GoodP 0 10 := fun s => by kernel_rfl
theorem c_0_11 : GoodC 0 11 := fun s => by kernel_rfl
theorem p_0_11 : GoodP 0 11 := fun s => by kernel_rfl
theorem c_0_12 : GoodC 0 12 := fun s => by kernel_rfl
theorem p_0_12 : GoodP 0 12 := fun s => by kernel_rfl
theorem c_0_13 : GoodC 0 13 := fun s => by kernel_rfl
theorem p_0_13 : GoodP 0 13 := fun s => by kernel_rfl
theorem c_0_14 : GoodC 0 14 := fun s => by kernel_rfl
theorem p_0_14 : GoodP 0 14 := fun s => by kernel_rfl
theorem c_0_15 : GoodC 0 15 := fun s => by kernel_rfl
theorem p_0_15 : GoodP 0 15 := fun s => by kernel_rfl
theorem c_0_16 : GoodC 0 16 := fun s => by kernel_rfl
theorem p_0_16 : GoodP 0 16 := fun s => by kernel_rfl
theorem c_0_17 : GoodC 0 17 := fun s => by kernel_rfl
theorem p_0_17 : GoodP 0 17 := fun s => by kernel_rfl
theorem c_0_18 : GoodC 0 18 := fun s => by kernel_rfl
theorem p_0_18 : GoodP 0 18 := fun s => by kernel_rfl
theorem c_0_19 : GoodC 0 19 := fun s => by kernel_rfl
theorem p_0_19 : GoodP 0 19 := fun s => by kernel_rfl
theorem c_0_20 : GoodC 0 20 := fun s => by kernel_rfl
theorem p_0_20 : GoodP 0 20 := fun s => by kernel_rfl
theorem c_0_21 : GoodC 0 21 := fun s => by kernel_rfl
theorem p_0_21 : GoodP 0 21 := fun s => by kernel_rfl
theorem c_0_22 : GoodC 0 22 := fun s => by kernel_rfl
theorem p_0_22 : GoodP 0 22 := fun s => by kernel_rfl
theorem c_0_23 : GoodC 0 23 := fun s => by kernel_rfl
theorem p_0_23 : GoodP 0 23 := fun s => by kernel_rfl
theorem c_0_24 : GoodC 0 24 := fun s => by kernel_rfl
theorem p_0_24 : GoodP 0 24 := fun s => by kernel_rfl
theorem c_0_25 : GoodC 0 25 := fun s => by kernel_rfl
theorem p_0_25 : GoodP 0 25 := fun s => by kernel_rfl
theorem c_0_26 : GoodC 0 26 := fun s => by kernel_rfl
theorem p_0_26 : GoodP 0 26 := fun s => by kernel_rfl
theorem c_0_27 : GoodC 0 27 := fun s => by kernel_rfl
theorem p_0_27 : GoodP 0 27 := fun s => by kernel_rfl
theorem c_0_28 : GoodC 0 28 := fun s => by kernel_rfl
theorem p_0_28 : GoodP 0 28 := fun s => by kernel_rfl
theorem c_0_29 : GoodC 0 29 := fun s => by kernel_rfl
theorem p_0_29 : GoodP 0 29 := fun s => by kernel_rfl
theorem c_0_30 : GoodC 0 30 := fun s => by kernel_rfl
theorem p_0_30 : GoodP 0 30 := fun s => by kernel_rfl
theorem c_0_31 : GoodC 0 31 := fun s => by kernel_rfl
theorem p_0_31 : GoodP 0 31 := fun s => by kernel_rfl
theorem c_0_32 : GoodC 0 32 := fun s => by kernel_rfl
theorem p_0_32 : GoodP 0 32 := fun s => by kernel_rfl
theorem c_0_33 : GoodC 0 33 := fun s => by kernel_rfl
theorem p_0_33 : GoodP 0 33 := fun s => by kernel_rfl
theorem c_0_34 : GoodC 0 34 := fun s => by kernel_rfl
theorem p_0_34 : GoodP 0 34 := fun s => by kernel_rfl
theorem c_0_35 : GoodC 0 35 := fun s => by kernel_rfl
theorem p_0_35 : GoodP 0 35 := fun s => by kernel_rfl
theorem c_0_36 : GoodC 0 36 := fun s => by kernel_rfl
theorem p_0_36 : GoodP 0 36 := fun s => by kernel_rfl
theorem c_0_37 : GoodC 0 37 := fun s => by kernel_rfl
theorem p_0_37 : GoodP 0 37 := fun s => by kernel_rfl
theorem c_0_38 : GoodC 0 38 := fun s => by kernel_rfl
theorem p_0_38 : GoodP 0 38 := fun s => by kernel_rfl
theorem c_0_39 : GoodC 0 39 := fun s => by kernel_rfl
theorem p_0_39 : GoodP 0 39 := fun s => by kernel_rfl
theorem c_0_40 : GoodC 0 40 := fun s => by kernel_rfl
theorem p_0_40 : GoodP 0 40 := fun s => by kernel_rfl
theorem c_0_41 : GoodC 0 41 := fun s => by kernel_rfl
theorem p_0_41 : GoodP 0 41 := fun s => by kernel_rfl
theorem c_0_42 : GoodC 0 42 := fun s => by kernel_rfl
theorem p_0_42 : GoodP 0 42 := fun s => by kernel_rfl
theorem c_0_43 : GoodC 0 43 := fun s => by kernel_rfl
theorem p_0_43 : GoodP 0 43 := fun s => by kernel_rfl
theorem c_0_44 : GoodC 0 44 := fun s => by kernel_rfl
theorem p_0_44 : GoodP 0 44 := fun s => by kernel_rfl
theorem c_0_45 : GoodC 0 45 := fun s => by kernel_rfl
theorem p_0_45 : GoodP 0 45 := fun s => by kernel_rfl
theorem c_0_46 : GoodC 0 46 := fun s => by kernel_rfl
theorem p_0_46 : GoodP 0 46 := fun s => by kernel_rfl
theorem c_0_47 : GoodC 0 47 := fun s => by kernel_rfl
theorem p_0_47 : GoodP 0 47 := fun s => by kernel_rfl
theorem c_0_48 : GoodC 0 48 := fun s => by kernel_rfl
theorem p_0_48 : GoodP 0 48 := fun s => by kernel_rfl
theorem c_0_49 : GoodC 0 49 := fun s => by kernel_rfl
theorem p_0_49 : GoodP 0 49 := fun s => by kernel_rfl
theorem c_0_50 : GoodC 0 50 := fun s => by kernel_rfl
theorem p_0_50 : GoodP 0 50 := fun s => by kernel_rfl
theorem c_0_51 : GoodC 0 51 := fun s => by kernel_rfl
theorem p_0_51 : GoodP 0 51 := fun s => by kernel_rfl
theorem c_0_52 : GoodC 0 52 := fun s => by kernel_rfl
theorem p_0_52 : GoodP 0 52 := fun s => by kernel_rfl
theorem c_0_53 : GoodC 0 53 := fun s => by kernel_rfl
theorem p_0_53 : GoodP 0 53 := fun s => by kernel_rfl
theorem c_0_54 : GoodC 0 54 := fun s => by kernel_rfl
theorem p_0_54 : GoodP 0 54 := fun s => by kernel_rfl
theorem c_0_55 : GoodC 0 55 := fun s => by kernel_rfl
theorem p_0_55 : GoodP 0 55 := fun s => by kernel_rfl
theorem c_0_56 : GoodC 0 56 := fun s => by kernel_rfl
theorem p_0_56 : GoodP 0 56 := fun s => by kernel_rfl
theorem c_0_57 : GoodC 0 57 := fun s => by kernel_rfl
theorem p_0_57 : GoodP 0 57 := fun s => by kernel_rfl
theorem c_0_58 : GoodC 0 58 := fun s => by kernel_rfl
theorem p_0_58 : GoodP 0 58 := fun s => by kernel_rfl
theorem c_0_59 : GoodC 0 59 := fun s => by kernel_rfl
theorem p_0_59 : GoodP 0 59 := fun s => by kernel_rfl
theorem c_0_60 : GoodC 0 60 := fun s => by kernel_rfl
theorem p_0_60 : GoodP 0 60 := fun s => by kernel_rfl
theorem c_1_1 : GoodC 1 1 := fun s => by kernel_rfl
theorem p_1_1 : GoodP 1 1 := fun s => by kernel_rfl
theorem c_1_2 : GoodC 1 2 := fun s => by kernel_rfl
theorem p_1_2 : GoodP 1 2 := fun s => by kernel_rfl
theorem c_1_3 : GoodC 1 3 := fun s => by kernel_rfl
theorem p_1_3 : GoodP 1 3 := fun s => by kernel_rfl
theorem c_1_4 : GoodC 1 4 := fun s => by kernel_rfl
theorem p_1_4 : GoodP 1 4 := fun s => by kernel_rfl
theorem c_1_5 : GoodC 1 5 := fun s => by kernel_rfl
theorem p_1_5 : GoodP 1 5 := fun s => by kernel_rfl
theorem c_1_6 : GoodC 1 6 := fun s => by kernel_rfl
theorem p_1_6 : GoodP 1 6 := fun s => by kernel_rfl
theorem c_1_7 : GoodC 1 7 := fun s => by kernel_rfl
theorem p_1_7 : GoodP 1 7 := fun s => by kernel_rfl
theorem c_1_8 : GoodC 1 8 := fun s => by kernel_rfl
theorem p_1_8 : GoodP 1 8 := fun s => by kernel_rfl
theorem c_1_9 : GoodC 1 9 := fun s => by kernel_rfl
theorem p_1_9 : GoodP 1 9 := fun s => by kernel_rfl
theorem c_1_10 : GoodC 1 10 := fun s => by kernel_rfl
theorem p_1_10 : GoodP 1 10 := fun s => by kernel_rfl
theorem c_1_11 : GoodC 1 11 := fun s => by kernel_rfl
theorem p_1_11 : GoodP 1 11 := fun s => by kernel_rfl
theorem c_1_12 : GoodC 1 12 := fun s => by kernel_rfl
theorem p_1_12 : GoodP 1 12 := fun s => by kernel_rfl
theorem c_1_13 : GoodC 1 13 := fun s => by kernel_rfl
theorem p_1_13 : GoodP 1 13 := fun s => by kernel_rfl
theorem c_1_14 : GoodC 1 14 := fun s => by kernel_rfl
theorem p_1_14 : GoodP 1 14 := fun s => by kernel_rfl
theorem c_1_15 : GoodC 1 15 := fun s => by kernel_rfl
theorem p_1_15 : GoodP 1 15 := fun s => by kernel_rfl
theorem c_1_16 : GoodC 1 16 := fun s => by kernel_rfl
theorem p_1_16 : GoodP 1 16 := fun s => by kernel_rfl
theorem c_1_17 : GoodC 1 17 := fun s => by kernel_rfl
theorem p_1_17 : GoodP 1 17 := fun s => by kernel_rfl
theorem c_1_18 : GoodC 1 18 := fun s => by kernel_rfl
theorem p_1_18 : GoodP 1 18 := fun s => by kernel_rfl
theorem c_1_19 : GoodC 1 19 := fun s => by kernel_rfl
theorem p_1_19 : GoodP 1 19 := fun s => by kernel_rfl
theorem c_1_20 : GoodC 1 20 := fun s => by kernel_rfl
theorem p_1_20 : GoodP 1 20 := fun s => by kernel_rfl
theorem c_1_21 : GoodC 1 21 := fun s => by kernel_rfl
theorem p_1_21 : GoodP 1 21 := fun s => by kernel_rfl
theorem c_1_22 : GoodC 1 22 := fun s => by kernel_rfl
theorem p_1_22 : GoodP 1 22 := fun s => by kernel_rfl
theorem c_1_23 : GoodC 1 23 := fun s => by kernel_rfl
theorem p_1_23 : GoodP 1 23 := fun s => by kernel_rfl
theorem c_1_24 : GoodC 1 24 := fun s => by kernel_rfl
theorem p_1_24 : GoodP 1 24 := fun s => by kernel_rfl
theorem c_1_25 : GoodC 1 25 := fun s => by kernel_rfl
theorem p_1_25 : GoodP 1 25 := fun s => by kernel_rfl
theorem c_1_26 : GoodC 1 26 := fun s => by kernel_rfl
theorem p_1_26 : GoodP 1 26 := fun s => by kernel_rfl
theorem c_1_27 : GoodC 1 27 := fun s => by kernel_rfl
theorem p_1_27 : GoodP 1 27 := fun s => by kernel_rfl
theorem c_1_28 : GoodC 1 28 := fun s => by kernel_rfl
theorem p_1_28 : GoodP 1 28 := fun s => by kernel_rfl
theorem c_1_29 : GoodC 1 29 := fun s => by kernel_rfl
theorem p_1_29 : GoodP 1 29 := fun s => by kernel_rfl
theorem c_1_30 : GoodC 1 30 := fun s => by kernel_rfl
theorem p_1_30 : GoodP 1 30 := fun s => by kernel_rfl
theorem c_1_31 : GoodC 1 31 := fun s => by kernel_rfl
theorem p_1_31 : GoodP 1 31 := fun s => by kernel_rfl
theorem c_1_32 : GoodC 1 32 := fun s => by kernel_rfl
theorem p_1_32 : GoodP 1 32 := fun s => by kernel_rfl
theorem c_1_33 : GoodC 1 33 := fun s => by kernel_rfl
theorem p_1_33 : GoodP 1 33 := fun s => by kernel_rfl
theorem c_1_34 : GoodC 1 34 := fun s => by kernel_rfl
theorem p_1_34 : GoodP 1 34 := fun s => by kernel_rfl
theorem c_1_35 : GoodC 1 35 := fun s => by kernel_rfl
theorem p_1_35 : GoodP 1 35 := fun s => by kernel_rfl
theorem c_1_36 : GoodC 1 36 := fun s => by kernel_rfl
theorem p_1_36 : GoodP 1 36 := fun s => by kernel_rfl
theorem c_1_37 : GoodC 1 37 := fun s => by kernel_rfl
theorem p_1_37 : GoodP 1 37 := fun s => by kernel_rfl
theorem c_1_38 : GoodC 1 38 := fun s => by kernel_rfl
theorem p_1_38 : GoodP 1 38 := fun s => by kernel_rfl
theorem c_1_39 : GoodC 1 39 := fun s => by kernel_rfl
theorem p_1_39 : GoodP 1 39 := fun s => by kernel_rfl
theorem c_1_40 : GoodC 1 40 := fun s => by kernel_rfl
theorem p_1_40 : GoodP 1 40 := fun s => by kernel_rfl
theorem c_1_41 : GoodC 1 41 := fun s => by kernel_rfl
theorem p_1_41 : GoodP 1 41 := fun s => by kernel_rfl
theorem c_1_42 : GoodC 1 42 := fun s => by kernel_rfl
theorem p_1_42 : GoodP 1 42 := fun s => by kernel_rfl
theorem c_1_43 : GoodC 1 43 := fun s => by kernel_rfl
theorem p_1_43 : GoodP 1 43 := fun s => by kernel_rfl
theorem c_1_44 : GoodC 1 44 := fun s => by kernel_rfl
theorem p_1_44 : GoodP 1 44 := fun s => by kernel_rfl
theorem c_1_45 : GoodC 1 45 := fun s => by kernel_rfl
theorem p_1_45 : GoodP 1 45 := fun s => by kernel_rfl
theorem c_1_46 : GoodC 1 46 := fun s => by kernel_rfl
theorem p_1_46 : GoodP 1 46 := fun s => by kernel_rfl
theorem c_1_47 : GoodC 1 47 := fun s => by kernel_rfl
theorem p_1_47 : GoodP 1 47 := fun s => by kernel_rfl
theorem c_1_48 : GoodC 1 48 := fun s => by kernel_rfl
theorem p_1_48 : GoodP 1 48 := fun s => by kernel_rfl
theorem c_1_49 : GoodC 1 49 := fun s => by kernel_rfl
theorem p_1_49 : GoodP 1 49 := fun s => by kernel_rfl
theorem c_1_50 : GoodC 1 50 := fun s => by kernel_rfl
theorem p_1_50 : GoodP 1 50 := fun s => by kernel_rfl
theorem c_1_51 : GoodC 1 51 := fun s => by kernel_rfl
theorem p_1_51 : GoodP 1 51 := fun s => by kernel_rfl
theorem c_1_52 : GoodC 1 52 := fun s => by kernel_rfl
theorem p_1_52 : GoodP 1 52 := fun s => by kernel_rfl
theorem c_1_53 : GoodC 1 53 := fun s => by kernel_rfl
theorem p_1_53 : GoodP 1 53 := fun s => by kernel_rfl
theorem c_1_54 : GoodC 1 54 := fun s => by kernel_rfl
theorem p_1_54 : GoodP 1 54 := fun s => by kernel_rfl
theorem c_1_55 : GoodC 1 55 := fun s => by kernel_rfl
theorem p_1_55 : GoodP 1 55 := fun s => by kernel_rfl
theorem c_1_56 : GoodC 1 56 := fun s => by kernel_rfl
theorem p_1_56 : GoodP 1 56 := fun s => by kernel_rfl
theorem c_1_57 : GoodC 1 57 := fun s => by kernel_rfl
theorem p_1_57 : GoodP 1 57 := fun s => by kernel_rfl
theorem c_1_58 : GoodC 1 58 := fun s => by kernel_rfl
theorem p_1_58 : GoodP 1 58 := fun s => by kernel_rfl
theorem c_1_59 : GoodC 1 59 := fun s => by kernel_rfl
theorem p_1_59 : GoodP 1 59 := fun s => by kernel_rfl
theorem c_1_60 : GoodC 1 60 := fun s => by kernel_rfl
theorem p_1_60 : GoodP 1 60 := fun s => by kernel_rfl
theorem c_2_1 : GoodC 2 1 := fun s => by kernel_rfl
theorem p_2_1 : GoodP 2 1 := fun s => by kernel_rfl
theorem c_2_2 : GoodC 2 2 := fun s => by kernel_rfl
theorem p_2_2 : GoodP 2 2 := fun s => by kernel_rfl
theorem c_2_3 : GoodC 2 3 := fun s => by kernel_rfl
theorem p_2_3 : GoodP 2 3 := fun s => by kernel_rfl
theorem c_2_4 : GoodC 2 4 := fun s => by kernel_rfl
theorem p_2_4 : GoodP 2 4 := fun s => by kernel_rfl
theorem c_2_5 : GoodC 2 5 := fun s => by kernel_rfl
theorem p_2_5 : GoodP 2 5 := fun s => by kernel_rfl
theorem c_2_6 : GoodC 2 6 := fun s => by kernel_rfl
theorem p_2_6 : GoodP 2 6 := fun s => by kernel_rfl
theorem c_2_7 : GoodC 2 7 := fun s => by kernel_rfl
theorem p_2_7 : GoodP 2 7 := fun s => by kernel_rfl
theorem c_2_8 : GoodC 2 8 := fun s => by kernel_rfl
theorem p_2_8 : GoodP 2 8 := fun s => by kernel_rfl
theorem c_2_9 : GoodC 2 9 := fun s => by kernel_rfl
theorem p_2_9 : GoodP 2 9 := fun s => by kernel_rfl
theorem c_2_10 : GoodC 2 10 := fun s => by kernel_rfl
theorem p_2_10 : GoodP 2 10 := fun s => by kernel_rfl
theorem c_2_11 : GoodC 2 11 := fun s => by kernel_rfl
theorem p_2_11 : GoodP 2 11 := fun s => by kernel_rfl
theorem c_2_12 : GoodC 2 12 := fun s => by kernel_rfl
theorem p_2_12 : GoodP 2 12 := fun s => by kernel_rfl
theorem c_2_13 : GoodC 2 13 := fun s => by kernel_rfl
theorem p_2_13 : GoodP 2 13 := fun s => by kernel_rfl
theorem c_2_14 : GoodC 2 14 := fun s => by kernel_rfl
theorem p_2_14 : GoodP 2 14 := fun s => by kernel_rfl
theorem c_2_15 : GoodC 2 15 := fun s => by kernel_rfl
theorem p_2_15 : GoodP 2 15 := fun s => by kernel_rfl
theorem c_2_16 : GoodC 2 16 := fun s => by kernel_rfl
theorem p_2_16 : GoodP 2 16 := fun s => by kernel_rfl
theorem c_2_17 : GoodC 2 17 := fun s => by kernel_rfl
theorem p_2_17 : GoodP 2 17 := fun s => by kernel_rfl
theorem c_2_18 : GoodC 2 18 := fun s => by kernel_rfl
theorem p_2_18 : GoodP 2 18 := fun s => by kernel_rfl
theorem c_2_19 : GoodC 2 19 := fun s => by kernel_rfl
theorem p_2_19 : GoodP 2 19 := fun s => by kernel_rfl
theorem c_2_20 : GoodC 2 20 := fun s => by kernel_rfl
theorem p_2_20 : GoodP 2 20 := fun s => by kernel_rfl
theorem c_2_21 : GoodC 2 21 := fun s => by kernel_rfl
theorem p_2_21 : GoodP 2 21 := fun s => by kernel_rfl
theorem c_2_22 : GoodC 2 22 := fun s => by kernel_rfl
theorem p_2_22 : GoodP 2 22 := fun s => by kernel_rfl
theorem c_2_23 : GoodC 2 23 := fun s => by kernel_rfl
theorem p_2_23 : GoodP 2 23 := fun s => by kernel_rfl
theorem c_2_24 : GoodC 2 24 := fun s => by kernel_rfl
theorem p_2_24 : GoodP 2 24 := fun s => by kernel_rfl
theorem c_2_25 : GoodC 2 25 := fun s => by kernel_rfl
theorem p_2_25 : GoodP 2 25 := fun s => by kernel_rfl
theorem c_2_26 : GoodC 2 26 := fun s => by kernel_rfl
theorem p_2_26 : GoodP 2 26 := fun s => by kernel_rfl
theorem c_2_27 : GoodC 2 27 := fun s => by kernel_rfl
theorem p_2_27 : GoodP 2 27 := fun s => by kernel_rfl
theorem c_2_28 : GoodC 2 28 := fun s => by kernel_rfl
theorem p_2_28 : GoodP 2 28 := fun s => by kernel_rfl
theorem c_2_29 : GoodC 2 29 := fun s => by kernel_rfl
theorem p_2_29 : GoodP 2 29 := fun s => by kernel_rfl
theorem c_2_30 : GoodC 2 30 := fun s => by kernel_rfl
theorem p_2_30 : GoodP 2 30 := fun s => by kernel_rfl
theorem c_2_31 : GoodC 2 31 := fun s => by kernel_rfl
theorem p_2_31 : GoodP 2 31 := fun s => by kernel_rfl
theorem c_2_32 : GoodC 2 32 := fun s => by kernel_rfl
theorem p_2_32 : GoodP 2 32 := fun s => by kernel_rfl
theorem c_2_33 : GoodC 2 33 := fun s => by kernel_rfl
theorem p_2_33 : GoodP 2 33 := fun s => by kernel_rfl
theorem c_2_34 : GoodC 2 34 := fun s => by kernel_rfl
theorem p_2_34 : GoodP 2 34 := fun s => by kernel_rfl
theorem c_2_35 : GoodC 2 35 := fun s => by kernel_rfl
theorem p_2_35 : GoodP 2 35 := fun s => by kernel_rfl
theorem c_2_36 : GoodC 2 36 := fun s => by kernel_rfl
theorem p_2_36 : GoodP 2 36 := fun s => by kernel_rfl
theorem c_2_37 : GoodC 2 37 := fun s => by kernel_rfl
theorem p_2_37 : GoodP 2 37 := fun s => by kernel_rfl
theorem c_2_38 : GoodC 2 38 := fun s => by kernel_rfl
theorem p_2_38 : GoodP 2 38 := fun s => by kernel_rfl
theorem c_2_39 : GoodC 2 39 := fun s => by kernel_rfl
theorem p_2_39 : GoodP 2 39 := fun s => by kernel_rfl
theorem c_2_40 : GoodC 2 40 := fun s => by kernel_rfl
theorem p_2_40 : GoodP 2 40 := fun s => by kernel_rfl
theorem c_2_41 : GoodC 2 41 := fun s => by kernel_rfl
theorem p_2_41 : GoodP 2 41 := fun s => by kernel_rfl
theorem c_2_42 : GoodC 2 42 := fun s => by kernel_rfl
theorem p_2_42 : GoodP 2 42 := fun s => by kernel_rfl
theorem c_2_43 : GoodC 2 43 := fun s => by kernel_rfl
theorem p_2_43 : GoodP 2 43 := fun s => by kernel_rfl
theorem c_2_44 : GoodC 2 44 := fun s => by kernel_rfl
theorem p_2_44 : GoodP 2 44 := fun s => by kernel_rfl
theorem c_2_45 : GoodC 2 45 := fun s => by kernel_rfl
theorem p_2_45 : GoodP 2 45 := fun s => by kernel_rfl
theorem c_2_46 : GoodC 2 46 := fun s => by kernel_rfl
theorem p_2_46 : GoodP 2 46 := fun s => by kernel_rfl
theorem c_2_47 : GoodC 2 47 := fun s => by kernel_rfl
theorem p_2_47 : GoodP 2 47 := fun s => by kernel_rfl
theorem c_2_48 : GoodC 2 48 := fun s => by kernel_rfl
theorem p_2_48 : GoodP 2 48 := fun s => by kernel_rfl
theorem c_2_49 : GoodC 2 49 := fun s => by kernel_rfl
theorem p_2_49 : GoodP 2 49 := fun s => by kernel_rfl
theorem c_2_50 : GoodC 2 50 := fun s => by kernel_rfl
theorem p_2_50 : GoodP 2 50 := fun s => by kernel_rfl
theorem c_2_51 : GoodC 2 51 := fun s => by kernel_rfl
theorem p_2_51 : GoodP 2 51 := fun s => by kernel_rfl
theorem c_2_52 : GoodC 2 52 := fun s => by kernel_rfl
theorem p_2_52 : GoodP 2 52 := fun s => by kernel_rfl
theorem c_2_53 : GoodC 2 53 := fun s => by kernel_rfl
theorem p_2_53 : GoodP 2 53 := fun s => by kernel_rfl
theorem c_2_54 : GoodC 2 54 := fun s => by kernel_rfl
theorem p_2_54 : GoodP 2 54 := fun s => by kernel_rfl
theorem c_2_55 : GoodC 2 55 := fun s => by kernel_rfl
theorem p_2_55 : GoodP 2 55 := fun s => by kernel_rfl
theorem c_2_56 : GoodC 2 56 := fun s => by kernel_rfl
theorem p_2_56 : GoodP 2 56 := fun s => by kernel_rfl
theorem c_2_57 : GoodC 2 57 := fun s => by kernel_rfl
theorem p_2_57 : GoodP 2 57 := fun s => by kernel_rfl
theorem c_2_58 : GoodC 2 58 := fun s => by kernel_rfl
theorem p_2_58 : GoodP 2 58 := fun s => by kernel_rfl
theorem c_2_59 : GoodC 2 59 := fun s => by kernel_rfl
theorem p_2_59 : GoodP 2 59 := fun s => by kernel_rfl
theorem c_2_60 : GoodC 2 60 := fun s => by kernel_rfl
theorem p_2_60 : GoodP 2 60 := fun s => by kernel_rfl
theorem c_3_1 : GoodC 3 1 := fun s => by kernel_rfl
theorem p_3_1 : GoodP 3 1 := fun s => by kernel_rfl
theorem c_3_2 : GoodC 3 2 := fun s => by kernel_rfl
theorem p_3_2 : GoodP 3 2 := fun s => by kernel_rfl
theorem c_3_3 : GoodC 3 3 := fun s => by kernel_rfl
theorem p_3_3 : GoodP 3 3 := fun s => by kernel_rfl
theorem c_3_4 : GoodC 3 4 := fun s => by kernel_rfl
theorem p_3_4 : GoodP 3 4 := fun s => by kernel_rfl
theorem c_3_5 : GoodC 3 5 := fun s => by kernel_rfl
theorem p_3_5 : GoodP 3 5 := fun s => by kernel_rfl
theorem c_3_6 : GoodC 3 6 := fun s => by kernel_rfl
theorem p_3_6 : GoodP 3 6 := fun s => by kernel_rfl
theorem c_3_7 : GoodC 3 7 := fun s => by kernel_rfl
theorem p_3_7 : GoodP 3 7 := fun s => by kernel_rfl
theorem c_3_8 : GoodC 3 8 := fun s => by kernel_rfl
theorem p_3_8 : GoodP 3 8 := fun s => by kernel_rfl
theorem c_3_9 : GoodC 3 9 := fun s => by kernel_rfl
theorem p_3_9 : GoodP 3 9 := fun s => by kernel_rfl
theorem c_3_10 : GoodC 3 10 := fun s => by kernel_rfl
theorem p_3_10 : GoodP 3 10 := fun s => by kernel_rfl
theorem c_3_11 : GoodC 3 11 := fun s => by kernel_rfl
theorem p_3_11 : GoodP 3 11 := fun s => by kernel_rfl
theorem c_3_12 : GoodC 3 12 := fun s => by kernel_rfl
theorem p_3_12 : GoodP 3 12 := fun s => by kernel_rfl
theorem c_3_13 : GoodC 3 13 := fun s => by kernel_rfl
theorem p_3_13 : GoodP 3 13 := fun s => by kernel_rfl
theorem c_3_14 : GoodC 3 14 := fun s => by kernel_rfl
theorem p_3_14 : GoodP 3 14 := fun s => by kernel_rfl
theorem c_3_15 : GoodC 3 15 := fun s => by kernel_rfl
theorem p_3_15 : GoodP 3 15 := fun s => by kernel_rfl
theorem c_3_16 : GoodC 3 16 := fun s => by kernel_rfl
theorem p_3_16 : GoodP 3 16 := fun s => by kernel_rfl
theorem c_3_17 : GoodC 3 17 := fun s => by kernel_rfl
theorem p_3_17 : GoodP 3 17 := fun s => by kernel_rfl
theorem c_3_18 : GoodC 3 18 := fun s => by kernel_rfl
theorem p_3_18 : GoodP 3 18 := fun s => by kernel_rfl
theorem c_3_19 : GoodC 3 19 := fun s => by kernel_rfl
theorem p_3_19 : GoodP 3 19 := fun s => by kernel_rfl
theorem c_3_20 : GoodC 3 20 := fun s => by kernel_rfl
theorem p_3_20 : GoodP 3 20 := fun s => by kernel_rfl
theorem c_3_21 : GoodC 3 21 := fun s => by kernel_rfl
theorem p_3_21 : GoodP 3 21 := fun s => by kernel_rfl
theorem c_3_22 : GoodC 3 22 := fun s => by kernel_rfl
theorem p_3_22 : GoodP 3 22 := fun s => by kernel_rfl
theorem c_3_23 : GoodC 3 23 := fun s => by kernel_rfl
theorem p_3_23 : GoodP 3 23 := fun s => by kernel_rfl
theorem c_3_24 : GoodC 3 24 := fun s => by kernel_rfl
theorem p_3_24 : GoodP 3 24 := fun s => by kernel_rfl
theorem c_3_25 : GoodC 3 25 := fun s => by kernel_rfl
theorem p_3_25 : GoodP 3 25 := fun s => by kernel_rfl
theorem c_3_26 : GoodC 3 26 := fun s => by kernel_rfl
theorem p_3_26 : GoodP 3 26 := fun s => by kernel_rfl
theorem c_3_27 : GoodC 3 27 := fun s => by kernel_rfl
theorem p_3_27 : GoodP 3 27 := fun s => by kernel_rfl
theorem c_3_28 : GoodC 3 28 := fun s => by kernel_rfl
theorem p_3_28 : GoodP 3 28 := fun s => by kernel_rfl
theorem c_3_29 : GoodC 3 29 := fun s => by kernel_rfl
theorem p_3_29 : GoodP 3 29 := fun s => by kernel_rfl
theorem c_3_30 : GoodC 3 30 := fun s => by kernel_rfl
theorem p_3_30 : GoodP 3 30 := fun s => by kernel_rfl
theorem c_3_31 : GoodC 3 31 := fun s => by kernel_rfl
theorem p_3_31 : GoodP 3 31 := fun s => by kernel_rfl
theorem c_3_32 : GoodC 3 32 := fun s => by kernel_rfl
theorem p_3_32 : GoodP 3 32 := fun s => by kernel_rfl
theorem c_3_33 : GoodC 3 33 := fun s => by kernel_rfl
theorem p_3_33 : GoodP 3 33 := fun s => by kernel_rfl
theorem c_3_34 : GoodC 3 34 := fun s => by kernel_rfl
theorem p_3_34 : GoodP 3 34 := fun s => by kernel_rfl
theorem c_3_35 : GoodC 3 35 := fun s => by kernel_rfl
theorem p_3_35 : GoodP 3 35 := fun s => by kernel_rfl
theorem c_3_36 : GoodC 3 36 := fun s => by kernel_rfl
theorem p_3_36 : GoodP 3 36 := fun s => by kernel_rfl
theorem c_3_37 : GoodC 3 37 := fun s => by kernel_rfl
theorem p_3_37 : GoodP 3 37 := fun s => by kernel_rfl
theorem c_3_38 : GoodC 3 38 := fun s => by kernel_rfl
theorem p_3_38 : GoodP 3 38 := fun s => by kernel_rfl
theorem c_3_39 : GoodC 3 39 := fun s => by kernel_rfl
theorem p_3_39 : GoodP 3 39 := fun s => by kernel_rfl
theorem c_3_40 : GoodC 3 40 := fun s => by kernel_rfl
theorem p_3_40 : GoodP 3 40 := fun s => by kernel_rfl
theorem c_3_41 : GoodC 3 41 := fun s => by kernel_rfl
theorem p_3_41 : GoodP 3 41 := fun s => by kernel_rfl
theorem c_3_42 : GoodC 3 42 := fun s => by kernel_rfl
theorem p_3_42 : GoodP 3 42 := fun s => by kernel_rfl
theorem c_3_43 : GoodC 3 43 := fun s => by kernel_rfl
theorem p_3_43 : GoodP 3 43 := fun s => by kernel_rfl
theorem c_3_44 : GoodC 3 44 := fun s => by kernel_rfl
theorem p_3_44 : GoodP 3 44 := fun s => by kernel_rfl
theorem c_3_45 : GoodC 3 45 := fun s => by kernel_rfl
theorem p_3_45 : GoodP 3 45 := fun s => by kernel_rfl
theorem c_3_46 : GoodC 3 46 := fun s => by kernel_rfl
theorem p_3_46 : GoodP 3 46 := fun s => by kernel_rfl
theorem c_3_47 : GoodC 3 47 := fun s => by kernel_rfl
theorem p_3_47 : GoodP 3 47 := fun s => by kernel_rfl
theorem c_3_48 : GoodC 3 48 := fun s => by kernel_rfl
theorem p_3_48 : GoodP 3 48 := fun s => by kernel_rfl
theorem c_3_49 : GoodC 3 49 := fun s => by kernel_rfl
theorem p_3_49 : GoodP 3 49 := fun s => by kernel_rfl
theorem c_3_50 : GoodC 3 50 := fun s => by kernel_rfl
theorem p_3_50 : GoodP 3 50 := fun s => by kernel_rfl
theorem c_3_51 : GoodC 3 51 := fun s => by kernel_rfl
theorem p_3_51 : GoodP 3 51 := fun s => by kernel_rfl
theorem c_3_52 : GoodC 3 52 := fun s => by kernel_rfl
theorem p_3_52 : GoodP 3 52 := fun s => by kernel_rfl
theorem c_3_53 : GoodC 3 53 := fun s => by kernel_rfl
theorem p_3_53 : GoodP 3 53 := fun s => by kernel_rfl
theorem c_3_54 : GoodC 3 54 := fun s => by kernel_rfl
theorem p_3_54 : GoodP 3 54 := fun s => by kernel_rfl
theorem c_3_55 : GoodC 3 55 := fun s => by kernel_rfl
theorem p_3_55 : GoodP 3 55 := fun s => by kernel_rfl
theorem c_3_56 : GoodC 3 56 := fun s => by kernel_rfl
theorem p_3_56 : GoodP 3 56 := fun s => by kernel_rfl
theorem c_3_57 : GoodC 3 57 := fun s => by kernel_rfl
theorem p_3_57 : GoodP 3 57 := fun s => by kernel_rfl
theorem c_3_58 : GoodC 3 58 := fun s => by kernel_rfl
theorem p_3_58 : GoodP 3 58 := fun s => by kernel_rfl
theorem c_3_59 : GoodC 3 59 := fun s => by kernel_rfl
theorem p_3_59 : GoodP 3 59 := fun s => by kernel_rfl
theorem c_3_60 : GoodC 3 60 := fun s => by kernel_rfl
theorem p_3_60 : GoodP 3 60 := fun s => by kernel_rfl
theorem c_4_1 : GoodC 4 1 := fun s => by kernel_rfl
theorem p_4_1 : GoodP 4 1 := fun s => by kernel_rfl
theorem c_4_2 : GoodC 4 2 := fun s => by kernel_rfl
theorem p_4_2 : GoodP 4 2 := fun s => by kernel_rfl
theorem c_4_3 : GoodC 4 3 := fun s => by kernel_rfl
theorem p_4_3 : GoodP 4 3 := fun s => by kernel_rfl
theorem c_4_4 : GoodC 4 4 := fun s => by kernel_rfl
theorem p_4_4 : GoodP 4 4 := fun s => by kernel_rfl
theorem c_4_5 : GoodC 4 5 := fun s => by kernel_rfl
theorem p_4_5 : GoodP 4 5 := fun s => by kernel_rfl
theorem c_4_6 : GoodC 4 6 := fun s => by kernel_rfl
theorem p_4_6 : GoodP 4 6 := fun s => by kernel_rfl
theorem c_4_7 : GoodC 4 7 := fun s => by kernel_rfl
theorem p_4_7 : GoodP 4 7 := fun s => by kernel_rfl
theorem c_4_8 : GoodC 4 8 := fun s => by kernel_rfl
theorem p_4_8 : GoodP 4 8 := fun s => by kernel_rfl
theorem c_4_9 : GoodC 4 9 := fun s => by kernel_rfl
theorem p_4_9 : GoodP 4 9 := fun s => by kernel_rfl
theorem c_4_10 : GoodC 4 10 := fun s => by kernel_rfl
theorem p_4_10 : GoodP 4 10 := fun s => by kernel_rfl
theorem c_4_11 : GoodC 4 11 := fun s => by kernel_rfl
theorem p_4_11 : GoodP 4 11 := fun s => by kernel_rfl
theorem c_4_12 : GoodC 4 12 := fun s => by kernel_rfl
theorem p_4_12 : GoodP 4 12 := fun s => by kernel_rfl
theorem c_4_13 : GoodC 4 13 := fun s => by kernel_rfl
theorem p_4_13 : GoodP 4 13 := fun s => by kernel_rfl
theorem c_4_14 : GoodC 4 14 := fun s => by kernel_rfl
theorem p_4_14 : GoodP 4 14 := fun s => by kernel_rfl
theorem c_4_15 : GoodC 4 15 := fun s => by kernel_rfl
theorem p_4_15 : GoodP 4 15 := fun s => by kernel_rfl
theorem c_4_16 : GoodC 4 16 := fun s => by kernel_rfl
theorem p_4_16 : GoodP 4 16 := fun s => by kernel_rfl
theorem c_4_17 : GoodC 4 17 := fun s => by kernel_rfl
theorem p_4_17 : GoodP 4 17 := fun s => by kernel_rfl
theorem c_4_18 : GoodC 4 18 := fun s => by kernel_rfl
theorem p_4_18 : GoodP 4 18 := fun s => by kernel_rfl
theorem c_4_19 : GoodC 4 19 := fun s => by kernel_rfl
theorem p_4_19 : GoodP 4 19 := fun s => by kernel_rfl
theorem c_4_20 : GoodC 4 20 := fun s => by kernel_rfl
theorem p_4_20 : GoodP 4 20 := fun s => by kernel_rfl
theorem c_4_21 : GoodC 4 21 := fun s => by kernel_rfl
theorem p_4_21 : GoodP 4 21 := fun s => by kernel_rfl
theorem c_4_22 : GoodC 4 22 := fun s => by kernel_rfl
theorem p_4_22 : GoodP 4 22 := fun s => by kernel_rfl
theorem c_4_23 : GoodC 4 23 := fun s => by kernel_rfl
theorem p_4_23 : GoodP 4 23 := fun s => by kernel_rfl
theorem c_4_24 : GoodC 4 24 := fun s => by kernel_rfl
theorem p_4_24 : GoodP 4 24 := fun s => by kernel_rfl
theorem c_4_25 : GoodC 4 25 := fun s => by kernel_rfl
theorem p_4_25 : GoodP 4 25 := fun s => by kernel_rfl
theorem c_4_26 : GoodC 4 26 := fun s => by kernel_rfl
theorem p_4_26 : GoodP 4 26 := fun s => by kernel_rfl
theorem c_4_27 : GoodC 4 27 := fun s => by kernel_rfl
theorem p_4_27 : GoodP 4 27 := fun s => by kernel_rfl
theorem c_4_28 : GoodC 4 28 := fun s => by kernel_rfl
theorem p_4_28 : GoodP 4 28 := fun s => by kernel_rfl
theorem c_4_29 : GoodC 4 29 := fun s => by kernel_rfl
theorem p_4_29 : GoodP 4 29 := fun s => by kernel_rfl
theorem c_4_30 : GoodC 4 30 := fun s => by kernel_rfl
theorem p_4_30 : GoodP 4 30 := fun s => by kernel_rfl
theorem c_4_31 : GoodC 4 31 := fun s => by kernel_rfl
theorem p_4_31 : GoodP 4 31 := fun s => by kernel_rfl
theorem c_4_32 : GoodC 4 32 := fun s => by kernel_rfl
theorem p_4_32 : GoodP 4 32 := fun s => by kernel_rfl
theorem c_4_33 : GoodC 4 33 := fun s => by kernel_rfl
theorem p_4_33 : GoodP 4 33 := fun s => by kernel_rfl
theorem c_4_34 : GoodC 4 34 := fun s => by kernel_rfl
theorem p_4_34 : GoodP 4 34 := fun s => by kernel_rfl
theorem c_4_35 : GoodC 4 35 := fun s => by kernel_rfl
theorem p_4_35 : GoodP 4 35 := fun s => by kernel_rfl
theorem c_4_36 : GoodC 4 36 := fun s => by kernel_rfl
theorem p_4_36 : GoodP 4 36 := fun s => by kernel_rfl
theorem c_4_37 : GoodC 4 37 := fun s => by kernel_rfl
theorem p_4_37 : GoodP 4 37 := fun s => by kernel_rfl
theorem c_4_38 : GoodC 4 38 := fun s => by kernel_rfl
theorem p_4_38 : GoodP 4 38 := fun s => by kernel_rfl
theorem c_4_39 : GoodC 4 39 := fun s => by kernel_rfl
theorem p_4_39 : GoodP 4 39 := fun s => by kernel_rfl
theorem c_4_40 : GoodC 4 40 := fun s => by kernel_rfl
theorem p_4_40 : GoodP 4 40 := fun s => by kernel_rfl
theorem c_4_41 : GoodC 4 41 := fun s => by kernel_rfl
theorem p_4_41 : GoodP 4 41 := fun s => by kernel_rfl
theorem c_4_42 : GoodC 4 42 := fun s => by kernel_rfl
theorem p_4_42 : GoodP 4 42 := fun s => by kernel_rfl
theorem c_4_43 : GoodC 4 43 := fun s => by kernel_rfl
theorem p_4_43 : GoodP 4 43 := fun s => by kernel_rfl
theorem c_4_44 : GoodC 4 44 := fun s => by kernel_rfl
theorem p_4_44 : GoodP 4 44 := fun s => by kernel_rfl
theorem c_4_45 : GoodC 4 45 := fun s => by kernel_rfl
theorem p_4_45 : GoodP 4 45 := fun s => by kernel_rfl
theorem c_4_46 : GoodC 4 46 := fun s => by kernel_rfl
theorem p_4_46 : GoodP 4 46 := fun s => by kernel_rfl
theorem c_4_47 : GoodC 4 47 := fun s => by kernel_rfl
theorem p_4_47 : GoodP 4 47 := fun s => by kernel_rfl
theorem c_4_48 : GoodC 4 48 := fun s => by kernel_rfl
theorem p_4_48 : GoodP 4 48 := fun s => by kernel_rfl
theorem c_4_49 : GoodC 4 49 := fun s => by kernel_rfl
theorem p_4_49 : GoodP 4 49 := fun s => by kernel_rfl
theorem c_4_50 : GoodC 4 50 := fun s => by kernel_rfl
theorem p_4_50 : GoodP 4 50 := fun s => by kernel_rfl
theorem c_4_51 : GoodC 4 51 := fun s => by kernel_rfl
theorem p_4_51 : GoodP 4 51 := fun s => by kernel_rfl
theorem c_4_52 : GoodC 4 52 := fun s => by kernel_rfl
theorem p_4_52 : GoodP 4 52 := fun s => by kernel_rfl
theorem c_4_53 : GoodC 4 53 := fun s => by kernel_rfl
theorem p_4_53 : GoodP 4 53 := fun s => by kernel_rfl
theorem c_4_54 : GoodC 4 54 := fun s => by kernel_rfl
theorem p_4_54 : GoodP 4 54 := fun s => by kernel_rfl
theorem c_4_55 : GoodC 4 55 := fun s => by kernel_rfl
theorem p_4_55 : GoodP 4 55 := fun s => by kernel_rfl
theorem c_4_56 : GoodC 4 56 := fun s => by kernel_rfl
theorem p_4_56 : GoodP 4 56 := fun s => by kernel_rfl
theorem c_4_57 : GoodC 4 57 := fun s => by kernel_rfl
theorem p_4_57 : GoodP 4 57 := fun s => by kernel_rfl
theorem c_4_58 : GoodC 4 58 := fun s => by kernel_rfl
theorem p_4_58 : GoodP 4 58 := fun s => by kernel_rfl
theorem c_4_59 : GoodC 4 59 := fun s => by kernel_rfl
theorem p_4_59 : GoodP 4 59 := fun s => by kernel_rfl
theorem c_4_60 : GoodC 4 60 := fun s => by kernel_rfl
theorem p_4_60 : GoodP 4 60 := fun s => by kernel_rfl
theorem c_5_1 : GoodC 5 1 := fun s => by kernel_rfl
theorem p_5_1 : GoodP 5 1 := fun s => by kernel_rfl
theorem c_5_2 : GoodC 5 2 := fun s => by kernel_rfl
theorem p_5_2 : GoodP 5 2 := fun s => by kernel_rfl
theorem c_5_3 : GoodC 5 3 := fun s => by kernel_rfl
theorem p_5_3 : GoodP 5 3 := fun s => by kernel_rfl
theorem c_5_4 : GoodC 5 4 := fun s => by kernel_rfl
theorem p_5_4 : GoodP 5 4 := fun s => by kernel_rfl
theorem c_5_5 : GoodC 5 5 := fun s => by kernel_rfl
theorem p_5_5 : GoodP 5 5 := fun s => by kernel_rfl
theorem c_5_6 : GoodC 5 6 := fun s => by kernel_rfl
theorem p_5_6 : GoodP 5 6 := fun s => by kernel_rfl
theorem c_5_7 : GoodC 5 7 := fun s => by kernel_rfl
theorem p_5_7 : GoodP 5 7 := fun s => by kernel_rfl
theorem c_5_8 : GoodC 5 8 := fun s => by kernel_rfl
theorem p_5_8 : GoodP 5 8 := fun s => by kernel_rfl
theorem c_5_9 : GoodC 5 9 := fun s => by kernel_rfl
theorem p_5_9 : GoodP 5 9 := fun s => by kernel_rfl
theorem c_5_10 : GoodC 5 10 := fun s => by kernel_rfl
theorem p_5_10 : GoodP 5 10 := fun s => by kernel_rfl
theorem c_5_11 : GoodC 5 11 := fun s => by kernel_rfl
theorem p_5_11 : GoodP 5 11 := fun s => by kernel_rfl
theorem c_5_12 : GoodC 5 12 := fun s => by kernel_rfl
theorem p_5_12 : GoodP 5 12 := fun s => by kernel_rfl
theorem c_5_13 : GoodC 5 13 := fun s => by kernel_rfl
theorem p_5_13 : GoodP 5 13 := fun s => by kernel_rfl
theorem c_5_14 : GoodC 5 14 := fun s => by kernel_rfl
theorem p_5_14 : GoodP 5 14 := fun s => by kernel_rfl
theorem c_5_15 : GoodC 5 15 := fun s => by kernel_rfl
theorem p_5_15 : GoodP 5 15 := fun s => by kernel_rfl
theorem c_5_16 : GoodC 5 16 := fun s => by kernel_rfl
theorem p_5_16 : GoodP 5 16 := fun s => by kernel_rfl
theorem c_5_17 : GoodC 5 17 := fun s => by kernel_rfl
theorem p_5_17 : GoodP 5 17 := fun s => by kernel_rfl
theorem c_5_18 : GoodC 5 18 := fun s => by kernel_rfl
theorem p_5_18 : GoodP 5 18 := fun s => by kernel_rfl
theorem c_5_19 : GoodC 5 19 := fun s => by kernel_rfl
theorem p_5_19 : GoodP 5 19 := fun s => by kernel_rfl
theorem c_5_20 : GoodC 5 20 := fun s => by kernel_rfl
theorem p_5_20 : GoodP 5 20 := fun s => by kernel_rfl
theorem c_5_21 : GoodC 5 21 := fun s => by kernel_rfl
theorem p_5_21 : GoodP 5 21 := fun s => by kernel_rfl
theorem c_5_22 : GoodC 5 22 := fun s => by kernel_rfl
theorem p_5_22 : GoodP 5 22 := fun s => by kernel_rfl
theorem c_5_23 : GoodC 5 23 := fun s => by kernel_rfl
theorem p_5_23 : GoodP 5 23 := fun s => by kernel_rfl
theorem c_5_24 : GoodC 5 24 := fun s => by kernel_rfl
theorem p_5_24 : GoodP 5 24 := fun s => by kernel_rfl
theorem c_5_25 : GoodC 5 25 := fun s => by kernel_rfl
theorem p_5_25 : GoodP 5 25 := fun s => by kernel_rfl
theorem c_5_26 : GoodC 5 26 := fun s => by kernel_rfl
theorem p_5_26 : GoodP 5 26 := fun s => by kernel_rfl
theorem c_5_27 : GoodC 5 27 := fun s => by kernel_rfl
theorem p_5_27 : GoodP 5 27 := fun s => by kernel_rfl
theorem c_5_28 : GoodC 5 28 := fun s => by kernel_rfl
theorem p_5_28 : GoodP 5 28 := fun s => by kernel_rfl
theorem c_5_29 : GoodC 5 29 := fun s => by kernel_rfl
theorem p_5_29 : GoodP 5 29 := fun s => by kernel_rfl
theorem c_5_30 : GoodC 5 30 := fun s => by kernel_rfl
theorem p_5_30 : GoodP 5 30 := fun s => by kernel_rfl
theorem c_5_31 : GoodC 5 31 := fun s => by kernel_rfl
theorem p_5_31 : GoodP 5 31 := fun s => by kernel_rfl
theorem c_5_32 : GoodC 5 32 := fun s => by kernel_rfl
theorem p_5_32 : GoodP 5 32 := fun s => by kernel_rfl
theorem c_5_33 : GoodC 5 33 := fun s => by kernel_rfl
theorem p_5_33 : GoodP 5 33 := fun s => by kernel_rfl
theorem c_5_34 : GoodC 5 34 := fun s => by kernel_rfl
theorem p_5_34 : GoodP 5 34 := fun s => by kernel_rfl
theorem c_5_35 : GoodC 5 35 := fun s => by kernel_rfl
theorem p_5_35 : GoodP 5 35 := fun s => by kernel_rfl
theorem c_5_36 : GoodC 5 36 := fun s => by kernel_rfl
theorem p_5_36 : GoodP 5 36 := fun s => by kernel_rfl
theorem c_5_37 : GoodC 5 37 := fun s => by kernel_rfl
theorem p_5_37 : GoodP 5 37 := fun s => by kernel_rfl
theorem c_5_38 : GoodC 5 38 := fun s => by kernel_rfl
theorem p_5_38 : GoodP 5 38 := fun s => by kernel_rfl
theorem c_5_39 : GoodC 5 39 := fun s => by kernel_rfl
theorem p_5_39 : GoodP 5 39 := fun s => by kernel_rfl
theorem c_5_40 : GoodC 5 40 := fun s => by kernel_rfl
theorem p_5_40 : GoodP 5 40 := fun s => by kernel_rfl
theorem c_5_41 : GoodC 5 41 := fun s => by kernel_rfl
theorem p_5_41 : GoodP 5 41 := fun s => by kernel_rfl
theorem c_5_42 : GoodC 5 42 := fun s => by kernel_rfl
theorem p_5_42 : GoodP 5 42 := fun s => by kernel_rfl
theorem c_5_43 : GoodC 5 43 := fun s => by kernel_rfl
theorem p_5_43 : GoodP 5 43 := fun s => by kernel_rfl
theorem c_5_44 : GoodC 5 44 := fun s => by kernel_rfl
theorem p_5_44 : GoodP 5 44 := fun s => by kernel_rfl
theorem c_5_45 : GoodC 5 45 := fun s => by kernel_rfl
theorem p_5_45 : GoodP 5 45 := fun s => by kernel_rfl
theorem c_5_46 : GoodC 5 46 := fun s => by kernel_rfl
theorem p_5_46 : GoodP 5 46 := fun s => by kernel_rfl
theorem c_5_47 : GoodC 5 47 := fun s => by kernel_rfl
theorem p_5_47 : GoodP 5 47 := fun s => by kernel_rfl
theorem c_5_48 : GoodC 5 48 := fun s => by kernel_rfl
theorem p_5_48 : GoodP 5 48 := fun s => by kernel_rfl
theorem c_5_49 : GoodC 5 49 := fun s => by kernel_rfl
theorem p_5_49 : GoodP 5 49 := fun s => by kernel_rfl
theorem c_5_50 : GoodC 5 50 := fun s => by kernel_rfl
theorem p_5_50 : GoodP 5 50 := fun s => by kernel_rfl
theorem c_5_51 : GoodC 5 51 := fun s => by kernel_rfl
theorem p_5_51 : GoodP 5 51 := fun s => by kernel_rfl
theorem c_5_52 : GoodC 5 52 := fun s => by kernel_rfl
theorem p_5_52 : GoodP 5 52 := fun s => by kernel_rfl
theorem c_5_53 : GoodC 5 53 := fun s => by kernel_rfl
theorem p_5_53 : GoodP 5 53 := fun s => by kernel_rfl
theorem c_5_54 : GoodC 5 54 := fun s => by kernel_rfl
theorem p_5_54 : GoodP 5 54 := fun s => by kernel_rfl
theorem c_5_55 : GoodC 5 55 := fun s => by kernel_rfl
theorem p_5_55 : GoodP 5 55 := fun s => by kernel_rfl
theorem c_5_56 : GoodC 5 56 := fun s => by kernel_rfl
theorem p_5_56 : GoodP 5 56 := fun s => by kernel_rfl
theorem c_5_57 : GoodC 5 57 := fun s => by kernel_rfl
theorem p_5_57 : GoodP 5 57 := fun s => by kernel_rfl
theorem c_5_58 : GoodC 5 58 := fun s => by kernel_rfl
theorem p_5_58 : GoodP 5 58 := fun s => by kernel_rfl
theorem c_5_59 : GoodC 5 59 := fun s => by kernel_rfl
theorem p_5_59 : GoodP 5 59 := fun s => by kernel_rfl
theorem c_5_60 : GoodC 5 60 := fun s => by kernel_rfl
theorem p_5_60 : GoodP 5 60 := fun s => by kernel_rfl
theorem c_6_1 : GoodC 6 1 := fun s => by kernel_rfl
theorem c_6_2 : GoodC 6 2 := fun s => by kernel_rfl
theorem c_6_3 : GoodC 6 3 := fun s => by kernel_rfl
theorem c_6_4 : GoodC 6 4 := fun s => by kernel_rfl
theorem c_6_5 : GoodC 6 5 := fun s => by kernel_rfl
theorem c_6_6 : GoodC 6 6 := fun s => by kernel_rfl
theorem c_6_7 : GoodC 6 7 := fun s => by kernel_rfl
theorem c_6_8 : GoodC 6 8 := fun s => by kernel_rfl
theorem c_6_9 : GoodC 6 9 := fun s => by kernel_rfl
theorem c_6_10 : GoodC 6 10 := fun s => by kernel_rfl
theorem c_6_11 : GoodC 6 11 := fun s => by kernel_rfl
theorem c_6_12 : GoodC 6 12 := fun s => by kernel_rfl
theorem c_6_13 : GoodC 6 13 := fun s => by kernel_rfl
theorem c_6_14 : GoodC 6 14 := fun s => by kernel_rfl
theorem c_6_15 : GoodC 6 15 := fun s => by kernel_rfl
theorem c_6_16 : GoodC 6 16 := fun s => by kernel_rfl
theorem c_6_17 : GoodC 6 17 := fun s => by kernel_rfl
theorem c_6_18 : GoodC 6 18 := fun s => by kernel_rfl
theorem c_6_19 : GoodC 6 19 := fun s => by kernel_rfl
theorem c_6_20 : GoodC 6 20 := fun s => by kernel_rfl
theorem c_6_21 : GoodC 6 21 := fun s => by kernel_rfl
theorem c_6_22 : GoodC 6 22 := fun s => by kernel_rfl
theorem c_6_23 : GoodC 6 23 := fun s => by kernel_rfl
theorem c_6_24 : GoodC 6 24 := fun s => by kernel_rfl
theorem c_6_25 : GoodC 6 25 := fun s => by kernel_rfl
theorem c_6_26 : GoodC 6 26 := fun s => by kernel_rfl
theorem c_6_27 : GoodC 6 27 := fun s => by kernel_rfl
theorem c_6_28 : GoodC 6 28 := fun s => by kernel_rfl
theorem c_6_29 : GoodC 6 29 := fun s => by kernel_rfl
theorem c_6_30 : GoodC 6 30 := fun s => by kernel_rfl
theorem c_6_31 : GoodC 6 31 := fun s => by kernel_rfl
theorem c_6_32 : GoodC 6 32 := fun s => by kernel_rfl
theorem c_6_33 : GoodC 6 33 := fun s => by kernel_rfl
theorem c_6_34 : GoodC 6 34 := fun s => by kernel_rfl
theorem c_6_35 : GoodC 6 35 := fun s => by kernel_rfl
theorem c_6_36 : GoodC 6 36 := fun s => by kernel_rfl
theorem c_6_37 : GoodC 6 37 := fun s => by kernel_rfl
theorem c_6_38 : GoodC 6 38 := fun s => by kernel_rfl
theorem c_6_39 : GoodC 6 39 := fun s => by kernel_rfl
theorem c_6_40 : GoodC 6 40 := fun s => by kernel_rfl
theorem c_6_41 : GoodC 6 41 := fun s => by kernel_rfl
theorem c_6_42 : GoodC 6 42 := fun s => by kernel_rfl
theorem c_6_43 : GoodC 6 43 := fun s => by kernel_rfl
theorem c_6_44 : GoodC 6 44 := fun s => by kernel_rfl
theorem c_6_45 : GoodC 6 45 := fun s => by kernel_rfl
theorem c_6_46 : GoodC 6 46 := fun s => by kernel_rfl
theorem c_6_47 : GoodC 6 47 := fun s => by kernel_rfl
theorem c_6_48 : GoodC 6 48 := fun s => by kernel_rfl
theorem c_6_49 : GoodC 6 49 := fun s => by kernel_rfl
theorem c_6_50 : GoodC 6 50 := fun s => by kernel_rfl
theorem c_6_51 : GoodC 6 51 := fun s => by kernel_rfl
theorem c_6_52 : GoodC 6 52 := fun s => by kernel_rfl
theorem c_6_53 : GoodC 6 53 := fun s => by kernel_rfl
theorem c_6_54 : GoodC 6 54 := fun s => by kernel_rfl
theorem c_6_55 : GoodC 6 55 := fun s => by kernel_rfl
theorem c_6_56 : GoodC 6 56 := fun s => by kernel_rfl
theorem c_6_57 : GoodC 6 57 := fun s => by kernel_rfl
theorem c_6_58 : GoodC 6 58 := fun s => by kernel_rfl
theorem c_6_59 : GoodC 6 59 := fun s => by kernel_rfl
theorem c_6_60 : GoodC 6 60 := fun s => by kernel_rfl
theorem c_7_1 : GoodC 7 1 := fun s => by kernel_rfl
theorem p_7_1 : GoodP 7 1 := fun s => by kernel_rfl
theorem c_7_2 : GoodC 7 2 := fun s => by kernel_rfl
theorem p_7_2 : GoodP 7 2 := fun s => by kernel_rfl
theorem c_7_3 : GoodC 7 3 := fun s => by kernel_rfl
theorem p_7_3 : GoodP 7 3 := fun s => by kernel_rfl
theorem c_7_4 : GoodC 7 4 := fun s => by kernel_rfl
theorem p_7_4 : GoodP 7 4 := fun s => by kernel_rfl
theorem c_7_5 : GoodC 7 5 := fun s => by kernel_rfl
theorem p_7_5 : GoodP 7 5 := fun s => by kernel_rfl
theorem c_7_6 : GoodC 7 6 := fun s => by kernel_rfl
theorem p_7_6 : GoodP 7 6 := fun s => by kernel_rfl
theorem c_7_7 : GoodC 7 7 := fun s => by kernel_rfl
theorem p_7_7 : GoodP 7 7 := fun s => by kernel_rfl
theorem c_7_8 : GoodC 7 8 := fun s => by kernel_rfl
theorem p_7_8 : GoodP 7 8 := fun s => by kernel_rfl
theorem c_7_9 : GoodC 7 9 := fun s => by kernel_rfl
theorem p_7_9 : GoodP 7 9 := fun s => by kernel_rfl
theorem c_7_10 : GoodC 7 10 := fun s => by kernel_rfl
theorem p_7_10 : GoodP 7 10 := fun s => by kernel_rfl
theorem c_7_11 : GoodC 7 11 := fun s => by kernel_rfl
theorem p_7_11 : GoodP 7 11 := fun s => by kernel_rfl
theorem c_7_12 : GoodC 7 12 := fun s => by kernel_rfl
theorem p_7_12 : GoodP 7 12 := fun s => by kernel_rfl
theorem c_7_13 : GoodC 7 13 := fun s => by kernel_rfl
theorem p_7_13 : GoodP 7 13 := fun s => by kernel_rfl
theorem c_7_14 : GoodC 7 14 := fun s => by kernel_rfl
theorem p_7_14 : GoodP 7 14 := fun s => by kernel_rfl
theorem c_7_15 : GoodC 7 15 := fun s => by kernel_rfl
theorem p_7_15 : GoodP 7 15 := fun s => by kernel_rfl
theorem c_7_16 : GoodC 7 16 := fun s => by kernel_rfl
theorem p_7_16 : GoodP 7 16 := fun s => by kernel_rfl
theorem c_7_17 : GoodC 7 17 := fun s => by kernel_rfl
theorem p_7_17 : GoodP 7 17 := fun s => by kernel_rfl
theorem c_7_18 : GoodC 7 18 := fun s => by kernel_rfl
theorem p_7_18 : GoodP 7 18 := fun s => by kernel_rfl
theorem c_7_19 : GoodC 7 19 := fun s => by kernel_rfl
theorem p_7_19 : GoodP 7 19 := fun s => by kernel_rfl
theorem c_7_20 : GoodC 7 20 := fun s => by kernel_rfl
theorem p_7_20 : GoodP 7 20 := fun s => by kernel_rfl
theorem c_7_21 : GoodC 7 21 := fun s => by kernel_rfl
theorem p_7_21 : GoodP 7 21 := fun s => by kernel_rfl
theorem c_7_22 : GoodC 7 22 := fun s => by kernel_rfl
theorem p_7_22 : GoodP 7 22 := fun s => by kernel_rfl
theorem c_7_23 : GoodC 7 23 := fun s => by kernel_rfl
theorem p_7_23 : GoodP 7 23 := fun s => by kernel_rfl
theorem c_7_24 : GoodC 7 24 := fun s => by kernel_rfl
theorem p_7_24 : GoodP 7 24 := fun s => by kernel_rfl
theorem c_7_25 : GoodC 7 25 := fun s => by kernel_rfl
theorem p_7_25 : GoodP 7 25 := fun s => by kernel_rfl
theorem c_7_26 : GoodC 7 26 := fun s => by kernel_rfl
theorem p_7_26 : GoodP 7 26 := fun s => by kernel_rfl
theorem c_7_27 : GoodC 7 27 := fun s => by kernel_rfl
theorem p_7_27 : GoodP 7 27 := fun s => by kernel_rfl
theorem c_7_28 : GoodC 7 28 := fun s => by kernel_rfl
theorem p_7_28 : GoodP 7 28 := fun s => by kernel_rfl
theorem c_7_29 : GoodC 7 29 := fun s => by kernel_rfl
theorem p_7_29 : GoodP 7 29 := fun s => by kernel_rfl
theorem c_7_30 : GoodC 7 30 := fun s => by kernel_rfl
theorem p_7_30 : GoodP 7 30 := fun s => by kernel_rfl
theorem c_7_31 : GoodC 7 31 := fun s => by kernel_rfl
theorem p_7_31 : GoodP 7 31 := fun s => by kernel_rfl
theorem c_7_32 : GoodC 7 32 := fun s => by kernel_rfl
theorem p_7_32 : GoodP 7 32 := fun s => by kernel_rfl
theorem c_7_33 : GoodC 7 33 := fun s => by kernel_rfl
theorem p_7_33 : GoodP 7 33 := fun s => by kernel_rfl
theorem c_7_34 : GoodC 7 34 := fun s => by kernel_rfl
theorem p_7_34 : GoodP 7 34 := fun s => by kernel_rfl
theorem c_7_35 : GoodC 7 35 := fun s => by kernel_rfl
theorem p_7_35 : GoodP 7 35 := fun s => by kernel_rfl
theorem c_7_36 : GoodC 7 36 := fun s => by kernel_rfl
theorem p_7_36 : GoodP 7 36 := fun s => by kernel_rfl
theorem c_7_37 : GoodC 7 37 := fun s => by kernel_rfl
theorem p_7_37 : GoodP 7 37 := fun s => by kernel_rfl
theorem c_7_38 : GoodC 7 38 := fun s => by kernel_rfl
theorem p_7_38 : GoodP 7 38 := fun s => by kernel_rfl
theorem c_7_39 : GoodC 7 39 := fun s => by kernel_rfl
theorem p_7_39 : GoodP 7 39 := fun s => by kernel_rfl
theorem c_7_40 : GoodC 7 40 := fun s => by kernel_rfl
theorem p_7_40 : GoodP 7 40 := fun s => by kernel_rfl
theorem c_7_41 : GoodC 7 41 := fun s => by kernel_rfl
theorem p_7_41 : GoodP 7 41 := fun s => by kernel_rfl
theorem c_7_42 : GoodC 7 42 := fun s => by kernel_rfl
theorem p_7_42 : GoodP 7 42 := fun s => by kernel_rfl
theorem c_7_43 : GoodC 7 43 := fun s => by kernel_rfl
theorem p_7_43 : GoodP 7 43 := fun s => by kernel_rfl
theorem c_7_44 : GoodC 7 44 := fun s => by kernel_rfl
theorem p_7_44 : GoodP 7 44 := fun s => by kernel_rfl
theorem c_7_45 : GoodC 7 45 := fun s => by kernel_rfl
theorem p_7_45 : GoodP 7 45 := fun s => by kernel_rfl
theorem c_7_46 : GoodC 7 46 := fun s => by kernel_rfl
theorem p_7_46 : GoodP 7 46 := fun s => by kernel_rfl
theorem c_7_47 : GoodC 7 47 := fun s => by kernel_rfl
theorem p_7_47 : GoodP 7 47 := fun s => by kernel_rfl
theorem c_7_48 : GoodC 7 48 := fun s => by kernel_rfl
theorem p_7_48 : GoodP 7 48 := fun s => by kernel_rfl
theorem c_7_49 : GoodC 7 49 := fun s => by kernel_rfl
theorem p_7_49 : GoodP 7 49 := fun s => by kernel_rfl
theorem c_7_50 : GoodC 7 50 := fun s => by kernel_rfl
theorem p_7_50 : GoodP 7 50 := fun s => by kernel_rfl
theorem c_7_51 : GoodC 7 51 := fun s => by kernel_rfl
theorem p_7_51 : GoodP 7 51 := fun s => by kernel_rfl
theorem c_7_52 : GoodC 7 52 := fun s => by kernel_rfl
theorem p_7_52 : GoodP 7 52 := fun s => by kernel_rfl
theorem c_7_53 : GoodC 7 53 := fun s => by kernel_rfl
theorem p_7_53 : GoodP 7 53 := fun s => by kernel_rfl
theorem c_7_54 : GoodC 7 54 := fun s => by kernel_rfl
theorem p_7_54 : GoodP 7 54 := fun s => by kernel_rfl
theorem c_7_55 : GoodC 7 55 := fun s => by kernel_rfl
theorem p_7_55 : GoodP 7 55 := fun s => by kernel_rfl
theorem c_7_56 : GoodC 7 56 := fun s => by kernel_rfl
theorem p_7_56 : GoodP 7 56 := fun s => by kernel_rfl
theorem c_7_57 : GoodC 7 57 := fun s => by kernel_rfl
theorem p_7_57 : GoodP 7 57 := fun s => by kernel_rfl
theorem c_7_58 : GoodC 7 58 := fun s => by kernel_rfl
theorem p_7_58 : GoodP 7 58 := fun s => by kernel_rfl
theorem c_7_59 : GoodC 7 59 := fun s => by kernel_rfl
theorem p_7_59 : GoodP 7 59 := fun s => by kernel_rfl
theorem c_7_60 : GoodC 7 60 := fun s => by kernel_rfl
theorem p_7_60 : GoodP 7 60 := fun s => by kernel_rfl
theorem c_8_1 : GoodC 8 1 := fun s => by kernel_rfl
theorem p_8_1 : GoodP 8 1 := fun s => by kernel_rfl
theorem c_8_2 : GoodC 8 2 := fun s => by kernel_rfl
theorem p_8_2 : GoodP 8 2 := fun s => by kernel_rfl
theorem c_8_3 : GoodC 8 3 := fun s => by kernel_rfl
theorem p_8_3 : GoodP 8 3 := fun s => by kernel_rfl
theorem c_8_4 : GoodC 8 4 := fun s => by kernel_rfl
theorem p_8_4 : GoodP 8 4 := fun s => by kernel_rfl
theorem c_8_5 : GoodC 8 5 := fun s => by kernel_rfl
theorem p_8_5 : GoodP 8 5 := fun s => by kernel_rfl
theorem c_8_6 : GoodC 8 6 := fun s => by kernel_rfl
theorem p_8_6 : GoodP 8 6 := fun s => by kernel_rfl
theorem c_8_7 : GoodC 8 7 := fun s => by kernel_rfl
theorem p_8_7 : GoodP 8 7 := fun s => by kernel_rfl
theorem c_8_8 : GoodC 8 8 := fun s => by kernel_rfl
theorem p_8_8 : GoodP 8 8 := fun s => by kernel_rfl
theorem c_8_9 : GoodC 8 9 := fun s => by kernel_rfl
theorem p_8_9 : GoodP 8 9 := fun s => by kernel_rfl
theorem c_8_10 : GoodC 8 10 := fun s => by kernel_rfl
theorem p_8_10 : GoodP 8 10 := fun s => by kernel_rfl
theorem c_8_11 : GoodC 8 11 := fun s => by kernel_rfl
theorem p_8_11 : GoodP 8 11 := fun s => by kernel_rfl
theorem c_8_12 : GoodC 8 12 := fun s => by kernel_rfl
theorem p_8_12 : GoodP 8 12 := fun s => by kernel_rfl
theorem c_8_13 : GoodC 8 13 := fun s => by kernel_rfl
theorem p_8_13 : GoodP 8 13 := fun s => by kernel_rfl
theorem c_8_14 : GoodC 8 14 := fun s => by kernel_rfl
theorem p_8_14 : GoodP 8 14 := fun s => by kernel_rfl
theorem c_8_15 : GoodC 8 15 := fun s => by kernel_rfl
theorem p_8_15 : GoodP 8 15 := fun s => by kernel_rfl
theorem c_8_16 : GoodC 8 16 := fun s => by kernel_rfl
theorem p_8_16 : GoodP 8 16 := fun s => by kernel_rfl
theorem c_8_17 : GoodC 8 17 := fun s => by kernel_rfl
theorem p_8_17 : GoodP 8 17 := fun s => by kernel_rfl
theorem c_8_18 : GoodC 8 18 := fun s => by kernel_rfl
theorem p_8_18 : GoodP 8 18 := fun s => by kernel_rfl
theorem c_8_19 : GoodC 8 19 := fun s => by kernel_rfl
theorem p_8_19 : GoodP 8 19 := fun s => by kernel_rfl
theorem c_8_20 : GoodC 8 20 := fun s => by kernel_rfl
theorem p_8_20 : GoodP 8 20 := fun s => by kernel_rfl
theorem c_8_21 : GoodC 8 21 := fun s => by kernel_rfl
theorem p_8_21 : GoodP 8 21 := fun s => by kernel_rfl
theorem c_8_22 : GoodC 8 22 := fun s => by kernel_rfl
theorem p_8_22 : GoodP 8 22 := fun s => by kernel_rfl
theorem c_8_23 : GoodC 8 23 := fun s => by kernel_rfl
theorem p_8_23 : GoodP 8 23 := fun s => by kernel_rfl
theorem c_8_24 : GoodC 8 24 := fun s => by kernel_rfl
theorem p_8_24 : GoodP 8 24 := fun s => by kernel_rfl
theorem c_8_25 : GoodC 8 25 := fun s => by kernel_rfl
theorem p_8_25 : GoodP 8 25 := fun s => by kernel_rfl
theorem c_8_26 : GoodC 8 26 := fun s => by kernel_rfl
theorem p_8_26 : GoodP 8 26 := fun s => by kernel_rfl
theorem c_8_27 : GoodC 8 27 := fun s => by kernel_rfl
theorem p_8_27 : GoodP 8 27 := fun s => by kernel_rfl
theorem c_8_28 : GoodC 8 28 := fun s => by kernel_rfl
theorem p_8_28 : GoodP 8 28 := fun s => by kernel_rfl
theorem c_8_29 : GoodC 8 29 := fun s => by kernel_rfl
theorem p_8_29 : GoodP 8 29 := fun s => by kernel_rfl
theorem c_8_30 : GoodC 8 30 := fun s => by kernel_rfl
theorem p_8_30 : GoodP 8 30 := fun s => by kernel_rfl
theorem c_8_31 : GoodC 8 31 := fun s => by kernel_rfl
theorem p_8_31 : GoodP 8 31 := fun s => by kernel_rfl
theorem c_8_32 : GoodC 8 32 := fun s => by kernel_rfl
theorem p_8_32 : GoodP 8 32 := fun s => by kernel_rfl
theorem c_8_33 : GoodC 8 33 := fun s => by kernel_rfl
theorem p_8_33 : GoodP 8 33 := fun s => by kernel_rfl
theorem c_8_34 : GoodC 8 34 := fun s => by kernel_rfl
theorem p_8_34 : GoodP 8 34 := fun s => by kernel_rfl
theorem c_8_35 : GoodC 8 35 := fun s => by kernel_rfl
theorem p_8_35 : GoodP 8 35 := fun s => by kernel_rfl
theorem c_8_36 : GoodC 8 36 := fun s => by kernel_rfl
theorem p_8_36 : GoodP 8 36 := fun s => by kernel_rfl
theorem c_8_37 : GoodC 8 37 := fun s => by kernel_rfl
theorem p_8_37 : GoodP 8 37 := fun s => by kernel_rfl
theorem c_8_38 : GoodC 8 38 := fun s => by kernel_rfl
theorem p_8_38 : GoodP 8 38 := fun s => by kernel_rfl
theorem c_8_39 : GoodC 8 39 := fun s => by kernel_rfl
theorem p_8_39 : GoodP 8 39 := fun s => by kernel_rfl
theorem c_8_40 : GoodC 8 40 := fun s => by kernel_rfl
theorem p_8_40 : GoodP 8 40 := fun s => by kernel_rfl
theorem c_8_41 : GoodC 8 41 := fun s => by kernel_rfl
theorem p_8_41 : GoodP 8 41 := fun s => by kernel_rfl
theorem c_8_42 : GoodC 8 42 := fun s => by kernel_rfl
theorem p_8_42 : GoodP 8 42 := fun s => by kernel_rfl
theorem c_8_43 : GoodC 8 43 := fun s => by kernel_rfl
theorem p_8_43 : GoodP 8 43 := fun s => by kernel_rfl
theorem c_8_44 : GoodC 8 44 := fun s => by kernel_rfl
theorem p_8_44 : GoodP 8 44 := fun s => by kernel_rfl
theorem c_8_45 : GoodC 8 45 := fun s => by kernel_rfl
theorem p_8_45 : GoodP 8 45 := fun s => by kernel_rfl
theorem c_8_46 : GoodC 8 46 := fun s => by kernel_rfl
theorem p_8_46 : GoodP 8 46 := fun s => by kernel_rfl
theorem c_8_47 : GoodC 8 47 := fun s => by kernel_rfl
theorem p_8_47 : GoodP 8 47 := fun s => by kernel_rfl
theorem c_8_48 : GoodC 8 48 := fun s => by kernel_rfl
theorem p_8_48 : GoodP 8 48 := fun s => by kernel_rfl
theorem c_8_49 : GoodC 8 49 := fun s => by kernel_rfl
theorem p_8_49 : GoodP 8 49 := fun s => by kernel_rfl
theorem c_8_50 : GoodC 8 50 := fun s => by kernel_rfl
theorem p_8_50 : GoodP 8 50 := fun s => by kernel_rfl
theorem c_8_51 : GoodC 8 51 := fun s => by kernel_rfl
theorem p_8_51 : GoodP 8 51 := fun s => by kernel_rfl
theorem c_8_52 : GoodC 8 52 := fun s => by kernel_rfl
theorem p_8_52 : GoodP 8 52 := fun s => by kernel_rfl
theorem c_8_53 : GoodC 8 53 := fun s => by kernel_rfl
theorem p_8_53 : GoodP 8 53 := fun s => by kernel_rfl
theorem c_8_54 : GoodC 8 54 := fun s => by kernel_rfl
theorem p_8_54 : GoodP 8 54 := fun s => by kernel_rfl
theorem c_8_55 : GoodC 8 55 := fun s => by kernel_rfl
theorem p_8_55 : GoodP 8 55 := fun s => by kernel_rfl
theorem c_8_56 : GoodC 8 56 := fun s => by kernel_rfl
theorem p_8_56 : GoodP 8 56 := fun s => by kernel_rfl
theorem c_8_57 : GoodC 8 57 := fun s => by kernel_rfl
theorem p_8_57 : GoodP 8 57 := fun s => by kernel_rfl
theorem c_8_58 : GoodC 8 58 := fun s => by kernel_rfl
theorem p_8_58 : GoodP 8 58 := fun s => by kernel_rfl
theorem c_8_59 : GoodC 8 59 := fun s => by kernel_rfl
theorem p_8_59 : GoodP 8 59 := fun s => by kernel_rfl
theorem c_8_60 : GoodC 8 60 := fun s => by kernel_rfl
theorem p_8_60 : GoodP 8 60 := fun s => by kernel_rfl
theorem c_9_1 : GoodC 9 1 := fun s => by kernel_rfl
theorem p_9_1 : GoodP 9 1 := fun s => by kernel_rfl
theorem c_9_2 : GoodC 9 2 := fun s => by kernel_rfl
theorem p_9_2 : GoodP 9 2 := fun s => by kernel_rfl
theorem c_9_3 : GoodC 9 3 := fun s => by kernel_rfl
theorem p_9_3 : GoodP 9 3 := fun s => by kernel_rfl
theorem c_9_4 : GoodC 9 4 := fun s => by kernel_rfl
theorem p_9_4 : GoodP 9 4 := fun s => by kernel_rfl
theorem c_9_5 : GoodC 9 5 := fun s => by kernel_rfl
theorem p_9_5 : GoodP 9 5 := fun s => by kernel_rfl
theorem c_9_6 : GoodC 9 6 := fun s => by kernel_rfl
theorem p_9_6 : GoodP 9 6 := fun s => by kernel_rfl
theorem c_9_7 : GoodC 9 7 := fun s => by kernel_rfl
theorem p_9_7 : GoodP 9 7 := fun s => by kernel_rfl
theorem c_9_8 : GoodC 9 8 := fun s => by kernel_rfl
theorem p_9_8 : GoodP 9 8 := fun s => by kernel_rfl
theorem c_9_9 : GoodC 9 9 := fun s => by kernel_rfl
theorem p_9_9 : GoodP 9 9 := fun s => by kernel_rfl
theorem c_9_10 : GoodC 9 10 := fun s => by kernel_rfl
theorem p_9_10 : GoodP 9 10 := fun s => by kernel_rfl
theorem c_9_11 : GoodC 9 11 := fun s => by kernel_rfl
theorem p_9_11 : GoodP 9 11 := fun s => by kernel_rfl
theorem c_9_12 : GoodC 9 12 := fun s => by kernel_rfl
theorem p_9_12 : GoodP 9 12 := fun s => by kernel_rfl
theorem c_9_13 : GoodC 9 13 := fun s => by kernel_rfl
theorem p_9_13 : GoodP 9 13 := fun s => by kernel_rfl
theorem c_9_14 : GoodC 9 14 := fun s => by kernel_rfl
theorem p_9_14 : GoodP 9 14 := fun s => by kernel_rfl
theorem c_9_15 : GoodC 9 15 := fun s => by kernel_rfl
theorem p_9_15 : GoodP 9 15 := fun s => by kernel_rfl
theorem c_9_16 : GoodC 9 16 := fun s => by kernel_rfl
theorem p_9_16 : GoodP 9 16 := fun s => by kernel_rfl
theorem c_9_17 : GoodC 9 17 := fun s => by kernel_rfl
theorem p_9_17 : GoodP 9 17 := fun s => by kernel_rfl
theorem c_9_18 : GoodC 9 18 := fun s => by kernel_rfl
theorem p_9_18 : GoodP 9 18 := fun s => by kernel_rfl
theorem c_9_19 : GoodC 9 19 := fun s => by kernel_rfl
theorem p_9_19 : GoodP 9 19 := fun s => by kernel_rfl
theorem c_9_20 : GoodC 9 20 := fun s => by kernel_rfl
theorem p_9_20 : GoodP 9 20 := fun s => by kernel_rfl
theorem c_9_21 : GoodC 9 21 := fun s => by kernel_rfl
theorem p_9_21 : GoodP 9 21 := fun s => by kernel_rfl
theorem c_9_22 : GoodC 9 22 := fun s => by kernel_rfl
theorem p_9_22 : GoodP 9 22 := fun s => by kernel_rfl
theorem c_9_23 : GoodC 9 23 := fun s => by kernel_rfl
theorem p_9_23 : GoodP 9 23 := fun s => by kernel_rfl
theorem c_9_24 : GoodC 9 24 := fun s => by kernel_rfl
theorem p_9_24 : GoodP 9 24 := fun s => by kernel_rfl
theorem c_9_25 : GoodC 9 25 := fun s => by kernel_rfl
theorem p_9_25 : GoodP 9 25 := fun s => by kernel_rfl
theorem c_9_26 : GoodC 9 26 := fun s => by kernel_rfl
theorem p_9_26 : GoodP 9 26 := fun s => by kernel_rfl
theorem c_9_27 : GoodC 9 27 := fun s => by kernel_rfl
theorem p_9_27 : GoodP 9 27 := fun s => by kernel_rfl
theorem c_9_28 : GoodC 9 28 := fun s => by kernel_rfl
theorem p_9_28 : GoodP 9 28 := fun s => by kernel_rfl
theorem c_9_29 : GoodC 9 29 := fun s => by kernel_rfl
theorem p_9_29 : GoodP 9 29 := fun s => by kernel_rfl
theorem c_9_30 : GoodC 9 30 := fun s => by kernel_rfl
theorem p_9_30 : GoodP 9 30 := fun s => by kernel_rfl
theorem c_9_31 : GoodC 9 31 := fun s => by kernel_rfl
theorem p_9_31 : GoodP 9 31 := fun s => by kernel_rfl
theorem c_9_32 : GoodC 9 32 := fun s => by kernel_rfl
theorem p_9_32 : GoodP 9 32 := fun s => by kernel_rfl
theorem c_9_33 : GoodC 9 33 := fun s => by kernel_rfl
theorem p_9_33 : GoodP 9 33 := fun s => by kernel_rfl
theorem c_9_34 : GoodC 9 34 := fun s => by kernel_rfl
theorem p_9_34 : GoodP 9 34 := fun s => by kernel_rfl
theorem c_9_35 : GoodC 9 35 := fun s => by kernel_rfl
theorem p_9_35 : GoodP 9 35 := fun s => by kernel_rfl
theorem c_9_36 : GoodC 9 36 := fun s => by kernel_rfl
theorem p_9_36 : GoodP 9 36 := fun s => by kernel_rfl
theorem c_9_37 : GoodC 9 37 := fun s => by kernel_rfl
theorem p_9_37 : GoodP 9 37 := fun s => by kernel_rfl
theorem c_9_38 : GoodC 9 38 := fun s => by kernel_rfl
theorem p_9_38 : GoodP 9 38 := fun s => by kernel_rfl
theorem c_9_39 : GoodC 9 39 := fun s => by kernel_rfl
theorem p_9_39 : GoodP 9 39 := fun s => by kernel_rfl
theorem c_9_40 : GoodC 9 40 := fun s => by kernel_rfl
theorem p_9_40 : GoodP 9 40 := fun s => by kernel_rfl
theorem c_9_41 : GoodC 9 41 := fun s => by kernel_rfl
theorem p_9_41 : GoodP 9 41 := fun s => by kernel_rfl
theorem c_9_42 : GoodC 9 42 := fun s => by kernel_rfl
theorem p_9_42 : GoodP 9 42 := fun s => by kernel_rfl
theorem c_9_43 : GoodC 9 43 := fun s => by kernel_rfl
theorem p_9_43 : GoodP 9 43 := fun s => by kernel_rfl
theorem c_9_44 : GoodC 9 44 := fun s => by kernel_rfl
theorem p_9_44 : GoodP 9 44 := fun s => by kernel_rfl
theorem c_9_45 : GoodC 9 45 := fun s => by kernel_rfl
theorem p_9_45 : GoodP 9 45 := fun s => by kernel_rfl
theorem c_9_46 : GoodC 9 46 := fun s => by kernel_rfl
theorem p_9_46 : GoodP 9 46 := fun s => by kernel_rfl
theorem c_9_47 : GoodC 9 47 := fun s => by kernel_rfl
theorem p_9_47 : GoodP 9 47 := fun s => by kernel_rfl
theorem c_9_48 : GoodC 9 48 := fun s => by kernel_rfl
theorem p_9_48 : GoodP 9 48 := fun s => by kernel_rfl
theorem c_9_49 : GoodC 9 49 := fun s => by kernel_rfl
theorem p_9_49 : GoodP 9 49 := fun s => by kernel_rfl
theorem c_9_50 : GoodC 9 50 := fun s => by kernel_rfl
theorem p_9_50 : GoodP 9 50 := fun s => by kernel_rfl
theorem c_9_51 : GoodC 9 51 := fun s => by kernel_rfl
theorem p_9_51 : GoodP 9 51 := fun s => by kernel_rfl
theorem c_9_52 : GoodC 9 52 := fun s => by kernel_rfl
theorem p_9_52 : GoodP 9 52 := fun s => by kernel_rfl
theorem c_9_53 : GoodC 9 53 := fun s => by kernel_rfl
theorem p_9_53 : GoodP 9 53 := fun s => by kernel_rfl
theorem c_9_54 : GoodC 9 54 := fun s => by kernel_rfl
theorem p_9_54 : GoodP 9 54 := fun s => by kernel_rfl
theorem c_9_55 : GoodC 9 55 := fun s => by kernel_rfl
theorem p_9_55 : GoodP 9 55 := fun s => by kernel_rfl
theorem c_9_56 : GoodC 9 56 := fun s => by kernel_rfl
theorem p_9_56 : GoodP 9 56 := fun s => by kernel_rfl
theorem c_9_57 : GoodC 9 57 := fun s => by kernel_rfl
theorem p_9_57 : GoodP 9 57 := fun s => by kernel_rfl
theorem c_9_58 : GoodC 9 58 := fun s => by kernel_rfl
theorem p_9_58 : GoodP 9 58 := fun s => by kernel_rfl
theorem c_9_59 : GoodC 9 59 := fun s => by kernel_rfl
theorem p_9_59 : GoodP 9 59 := fun s => by kernel_rfl
theorem c_9_60 : GoodC 9 60 := fun s => by kernel_rfl
theorem p_9_60 : GoodP 9 60 := fun s => by kernel_rfl
theorem c_10_1 : GoodC 10 1 := fun s => by kernel_rfl
theorem p_10_1 : GoodP 10 1 := fun s => by kernel_rfl
theorem c_10_2 : GoodC 10 2 := fun s => by kernel_rfl
theorem p_10_2 : GoodP 10 2 := fun s => by kernel_rfl
theorem c_10_3 : GoodC 10 3 := fun s => by kernel_rfl
theorem p_10_3 : GoodP 10 3 := fun s => by kernel_rfl
theorem c_10_4 : GoodC 10 4 := fun s => by kernel_rfl
theorem p_10_4 : GoodP 10 4 := fun s => by kernel_rfl
theorem c_10_5 : GoodC 10 5 := fun s => by kernel_rfl
theorem p_10_5 : GoodP 10 5 := fun s => by kernel_rfl
theorem c_10_6 : GoodC 10 6 := fun s => by kernel_rfl
theorem p_10_6 : GoodP 10 6 := fun s => by kernel_rfl
theorem c_10_7 : GoodC 10 7 := fun s => by kernel_rfl
theorem p_10_7 : GoodP 10 7 := fun s => by kernel_rfl
theorem c_10_8 : GoodC 10 8 := fun s => by kernel_rfl
theorem p_10_8 : GoodP 10 8 := fun s => by kernel_rfl
theorem c_10_9 : GoodC 10 9 := fun s => by kernel_rfl
theorem p_10_9 : GoodP 10 9 := fun s => by kernel_rfl
theorem c_10_10 : GoodC 10 10 := fun s => by kernel_rfl
theorem p_10_10 : GoodP 10 10 := fun s => by kernel_rfl
theorem c_10_11 : GoodC 10 11 := fun s => by kernel_rfl
theorem p_10_11 : GoodP 10 11 := fun s => by kernel_rfl
theorem c_10_12 : GoodC 10 12 := fun s => by kernel_rfl
theorem p_10_12 : GoodP 10 12 := fun s => by kernel_rfl
theorem c_10_13 : GoodC 10 13 := fun s => by kernel_rfl
theorem p_10_13 : GoodP 10 13 := fun s => by kernel_rfl
theorem c_10_14 : GoodC 10 14 := fun s => by kernel_rfl
theorem p_10_14 : GoodP 10 14 := fun s => by kernel_rfl
theorem c_10_15 : GoodC 10 15 := fun s => by kernel_rfl
theorem p_10_15 : GoodP 10 15 := fun s => by kernel_rfl
theorem c_10_16 : GoodC 10 16 := fun s => by kernel_rfl
theorem p_10_16 : GoodP 10 16 := fun s => by kernel_rfl
theorem c_10_17 : GoodC 10 17 := fun s => by kernel_rfl
theorem p_10_17 : GoodP 10 17 := fun s => by kernel_rfl
theorem c_10_18 : GoodC 10 18 := fun s => by kernel_rfl
theorem p_10_18 : GoodP 10 18 := fun s => by kernel_rfl
theorem c_10_19 : GoodC 10 19 := fun s => by kernel_rfl
theorem p_10_19 : GoodP 10 19 := fun s => by kernel_rfl
theorem c_10_20 : GoodC 10 20 := fun s => by kernel_rfl
theorem p_10_20 : GoodP 10 20 := fun s => by kernel_rfl
theorem c_10_21 : GoodC 10 21 := fun s => by kernel_rfl
theorem p_10_21 : GoodP 10 21 := fun s => by kernel_rfl
theorem c_10_22 : GoodC 10 22 := fun s => by kernel_rfl
theorem p_10_22 : GoodP 10 22 := fun s => by kernel_rfl
theorem c_10_23 : GoodC 10 23 := fun s => by kernel_rfl
theorem p_10_23 : GoodP 10 23 := fun s => by kernel_rfl
theorem c_10_24 : GoodC 10 24 := fun s => by kernel_rfl
theorem p_10_24 : GoodP 10 24 := fun s => by kernel_rfl
theorem c_10_25 : GoodC 10 25 := fun s => by kernel_rfl
theorem p_10_25 : GoodP 10 25 := fun s => by kernel_rfl
theorem c_10_26 : GoodC 10 26 := fun s => by kernel_rfl
theorem p_10_26 : GoodP 10 26 := fun s => by kernel_rfl
theorem c_10_27 : GoodC 10 27 := fun s => by kernel_rfl
theorem p_10_27 : GoodP 10 27 := fun s => by kernel_rfl
theorem c_10_28 : GoodC 10 28 := fun s => by kernel_rfl
theorem p_10_28 : GoodP 10 28 := fun s => by kernel_rfl
theorem c_10_29 : GoodC 10 29 := fun s => by kernel_rfl
theorem p_10_29 : GoodP 10 29 := fun s => by kernel_rfl
theorem c_10_30 : GoodC 10 30 := fun s => by kernel_rfl
theorem p_10_30 : GoodP 10 30 := fun s => by kernel_rfl
theorem c_10_31 : GoodC 10 31 := fun s => by kernel_rfl
theorem p_10_31 : GoodP 10 31 := fun s => by kernel_rfl
theorem c_10_32 : GoodC 10 32 := fun s => by kernel_rfl
theorem p_10_32 : GoodP 10 32 := fun s => by kernel_rfl
theorem c_10_33 : GoodC 10 33 := fun s => by kernel_rfl
theorem p_10_33 : GoodP 10 33 := fun s => by kernel_rfl
theorem c_10_34 : GoodC 10 34 := fun s => by kernel_rfl
theorem p_10_34 : GoodP 10 34 := fun s => by kernel_rfl
theorem c_10_35 : GoodC 10 35 := fun s => by kernel_rfl
theorem p_10_35 : GoodP 10 35 := fun s => by kernel_rfl
theorem c_10_36 : GoodC 10 36 := fun s => by kernel_rfl
theorem p_10_36 : GoodP 10 36 := fun s => by kernel_rfl
theorem c_10_37 : GoodC 10 37 := fun s => by kernel_rfl
theorem p_10_37 : GoodP 10 37 := fun s => by kernel_rfl
theorem c_10_38 : GoodC 10 38 := fun s => by kernel_rfl
theorem p_10_38 : GoodP 10 38 := fun s => by kernel_rfl
theorem c_10_39 : GoodC 10 39 := fun s => by kernel_rfl
theorem p_10_39 : GoodP 10 39 := fun s => by kernel_rfl
theorem c_10_40 : GoodC 10 40 := fun s => by kernel_rfl
theorem p_10_40 : GoodP 10 40 := fun s => by kernel_rfl
theorem c_10_41 : GoodC 10 41 := fun s => by kernel_rfl
theorem p_10_41 : GoodP 10 41 := fun s => by kernel_rfl
theorem c_10_42 : GoodC 10 42 := fun s => by kernel_rfl
theorem p_10_42 : GoodP 10 42 := fun s => by kernel_rfl
theorem c_10_43 : GoodC 10 43 := fun s => by kernel_rfl
theorem p_10_43 : GoodP 10 43 := fun s => by kernel_rfl
theorem c_10_44 : GoodC 10 44 := fun s => by kernel_rfl
theorem p_10_44 : GoodP 10 44 := fun s => by kernel_rfl
theorem c_10_45 : GoodC 10 45 := fun s => by kernel_rfl
theorem p_10_45 : GoodP 10 45 := fun s => by kernel_rfl
theorem c_10_46 : GoodC 10 46 := fun s => by kernel_rfl
theorem p_10_46 : GoodP 10 46 := fun s => by kernel_rfl
theorem c_10_47 : GoodC 10 47 := fun s => by kernel_rfl
theorem p_10_47 : GoodP 10 47 := fun s => by kernel_rfl
theorem c_10_48 : GoodC 10 48 := fun s => by kernel_rfl
theorem p_10_48 : GoodP 10 48 := fun s => by kernel_rfl
theorem c_10_49 : GoodC 10 49 := fun s => by kernel_rfl
theorem p_10_49 : GoodP 10 49 := fun s => by kernel_rfl
theorem c_10_50 : GoodC 10 50 := fun s => by kernel_rfl
theorem p_10_50 : GoodP 10 50 := fun s => by kernel_rfl
theorem c_10_51 : GoodC 10 51 := fun s => by kernel_rfl
theorem p_10_51 : GoodP 10 51 := fun s => by kernel_rfl
theorem c_10_52 : GoodC 10 52 := fun s => by kernel_rfl
theorem p_10_52 : GoodP 10 52 := fun s => by kernel_rfl
theorem c_10_53 : GoodC 10 53 := fun s => by kernel_rfl
theorem p_10_53 : GoodP 10 53 := fun s => by kernel_rfl
theorem c_10_54 : GoodC 10 54 := fun s => by kernel_rfl
theorem p_10_54 : GoodP 10 54 := fun s => by kernel_rfl
theorem c_10_55 : GoodC 10 55 := fun s => by kernel_rfl
theorem p_10_55 : GoodP 10 55 := fun s => by kernel_rfl
theorem c_10_56 : GoodC 10 56 := fun s => by kernel_rfl
theorem p_10_56 : GoodP 10 56 := fun s => by kernel_rfl
theorem c_10_57 : GoodC 10 57 := fun s => by kernel_rfl
theorem p_10_57 : GoodP 10 57 := fun s => by kernel_rfl
theorem c_10_58 : GoodC 10 58 := fun s => by kernel_rfl
theorem p_10_58 : GoodP 10 58 := fun s => by kernel_rfl
theorem c_10_59 : GoodC 10 59 := fun s => by kernel_rfl
theorem p_10_59 : GoodP 10 59 := fun s => by kernel_rfl
theorem c_10_60 : GoodC 10 60 := fun s => by kernel_rfl
theorem p_10_60 : GoodP 10 60 := fun s => by kernel_rfl
theorem c_11_1 : GoodC 11 1 := fun s => by kernel_rfl
theorem p_11_1 : GoodP 11 1 := fun s => by kernel_rfl
theorem c_11_2 : GoodC 11 2 := fun s => by kernel_rfl
theorem p_11_2 : GoodP 11 2 := fun s => by kernel_rfl
theorem c_11_3 : GoodC 11 3 := fun s => by kernel_rfl
theorem p_11_3 : GoodP 11 3 := fun s => by kernel_rfl
theorem c_11_4 : GoodC 11 4 := fun s => by kernel_rfl
theorem p_11_4 : GoodP 11 4 := fun s => by kernel_rfl
theorem c_11_5 : GoodC 11 5 := fun s => by kernel_rfl
theorem p_11_5 : GoodP 11 5 := fun s => by kernel_rfl
theorem c_11_6 : GoodC 11 6 := fun s => by kernel_rfl
theorem p_11_6 : GoodP 11 6 := fun s => by kernel_rfl
theorem c_11_7 : GoodC 11 7 := fun s => by kernel_rfl
theorem p_11_7 : GoodP 11 7 := fun s => by kernel_rfl
theorem c_11_8 : GoodC 11 8 := fun s => by kernel_rfl
theorem p_11_8 : GoodP 11 8 := fun s => by kernel_rfl
theorem c_11_9 : GoodC 11 9 := fun s => by kernel_rfl
theorem p_11_9 : GoodP 11 9 := fun s => by kernel_rfl
theorem c_11_10 : GoodC 11 10 := fun s => by kernel_rfl
theorem p_11_10 : GoodP 11 10 := fun s => by kernel_rfl
theorem c_11_11 : GoodC 11 11 := fun s => by kernel_rfl
theorem p_11_11 : GoodP 11 11 := fun s => by kernel_rfl
theorem c_11_12 : GoodC 11 12 := fun s => by kernel_rfl
theorem p_11_12 : GoodP 11 12 := fun s => by kernel_rfl
theorem c_11_13 : GoodC 11 13 := fun s => by kernel_rfl
theorem p_11_13 : GoodP 11 13 := fun s => by kernel_rfl
theorem c_11_14 : GoodC 11 14 := fun s => by kernel_rfl
theorem p_11_14 : GoodP 11 14 := fun s => by kernel_rfl
theorem c_11_15 : GoodC 11 15 := fun s => by kernel_rfl
theorem p_11_15 : GoodP 11 15 := fun s => by kernel_rfl
theorem c_11_16 : GoodC 11 16 := fun s => by kernel_rfl
theorem p_11_16 : GoodP 11 16 := fun s => by kernel_rfl
theorem c_11_17 : GoodC 11 17 := fun s => by kernel_rfl
theorem p_11_17 : GoodP 11 17 := fun s => by kernel_rfl
theorem c_11_18 : GoodC 11 18 := fun s => by kernel_rfl
theorem p_11_18 : GoodP 11 18 := fun s => by kernel_rfl
theorem c_11_19 : GoodC 11 19 := fun s => by kernel_rfl
theorem p_11_19 : GoodP 11 19 := fun s => by kernel_rfl
theorem c_11_20 : GoodC 11 20 := fun s => by kernel_rfl
theorem p_11_20 : GoodP 11 20 := fun s => by kernel_rfl
theorem c_11_21 : GoodC 11 21 := fun s => by kernel_rfl
theorem p_11_21 : GoodP 11 21 := fun s => by kernel_rfl
theorem c_11_22 : GoodC 11 22 := fun s => by kernel_rfl
theorem p_11_22 : GoodP 11 22 := fun s => by kernel_rfl
theorem c_11_23 : GoodC 11 23 := fun s => by kernel_rfl
theorem p_11_23 : GoodP 11 23 := fun s => by kernel_rfl
theorem c_11_24 : GoodC 11 24 := fun s => by kernel_rfl
theorem p_11_24 : GoodP 11 24 := fun s => by kernel_rfl
theorem c_11_25 : GoodC 11 25 := fun s => by kernel_rfl
theorem p_11_25 : GoodP 11 25 := fun s => by kernel_rfl
theorem c_11_26 : GoodC 11 26 := fun s => by kernel_rfl
theorem p_11_26 : GoodP 11 26 := fun s => by kernel_rfl
theorem c_11_27 : GoodC 11 27 := fun s => by kernel_rfl
theorem p_11_27 : GoodP 11 27 := fun s => by kernel_rfl
theorem c_11_28 : GoodC 11 28 := fun s => by kernel_rfl
theorem p_11_28 : GoodP 11 28 := fun s => by kernel_rfl
theorem c_11_29 : GoodC 11 29 := fun s => by kernel_rfl
theorem p_11_29 : GoodP 11 29 := fun s => by kernel_rfl
theorem c_11_30 : GoodC 11 30 := fun s => by kernel_rfl
theorem p_11_30 : GoodP 11 30 := fun s => by kernel_rfl
theorem c_11_31 : GoodC 11 31 := fun s => by kernel_rfl
theorem p_11_31 : GoodP 11 31 := fun s => by kernel_rfl
theorem c_11_32 : GoodC 11 32 := fun s => by kernel_rfl
theorem p_11_32 : GoodP 11 32 := fun s => by kernel_rfl
theorem c_11_33 : GoodC 11 33 := fun s => by kernel_rfl
theorem p_11_33 : GoodP 11 33 := fun s => by kernel_rfl
theorem c_11_34 : GoodC 11 34 := fun s => by kernel_rfl
theorem p_11_34 : GoodP 11 34 := fun s => by kernel_rfl
theorem c_11_35 : GoodC 11 35 := fun s => by kernel_rfl
theorem p_11_35 : GoodP 11 35 := fun s => by kernel_rfl
theorem c_11_36 : GoodC 11 36 := fun s => by kernel_rfl
theorem p_11_36 : GoodP 11 36 := fun s => by kernel_rfl
theorem c_11_37 : GoodC 11 37 := fun s => by kernel_rfl
theorem p_11_37 : GoodP 11 37 := fun s => by kernel_rfl
theorem c_11_38 : GoodC 11 38 := fun s => by kernel_rfl
theorem p_11_38 : GoodP 11 38 := fun s => by kernel_rfl
theorem c_11_39 : GoodC 11 39 := fun s => by kernel_rfl
theorem p_11_39 : GoodP 11 39 := fun s => by kernel_rfl
theorem c_11_40 : GoodC 11 40 := fun s => by kernel_rfl
theorem p_11_40 : GoodP 11 40 := fun s => by kernel_rfl
theorem c_11_41 : GoodC 11 41 := fun s => by kernel_rfl
theorem p_11_41 : GoodP 11 41 := fun s => by kernel_rfl
theorem c_11_42 : GoodC 11 42 := fun s => by kernel_rfl
theorem p_11_42 : GoodP 11 42 := fun s => by kernel_rfl
theorem c_11_43 : GoodC 11 43 := fun s => by kernel_rfl
theorem p_11_43 : GoodP 11 43 := fun s => by kernel_rfl
theorem c_11_44 : GoodC 11 44 := fun s => by kernel_rfl
theorem p_11_44 : GoodP 11 44 := fun s => by kernel_rfl
theorem c_11_45 : GoodC 11 45 := fun s => by kernel_rfl
theorem p_11_45 : GoodP 11 45 := fun s => by kernel_rfl
theorem c_11_46 : GoodC 11 46 := fun s => by kernel_rfl
theorem p_11_46 : GoodP 11 46 := fun s => by kernel_rfl
theorem c_11_47 : GoodC 11 47 := fun s => by kernel_rfl
theorem p_11_47 : GoodP 11 47 := fun s => by kernel_rfl
theorem c_11_48 : GoodC 11 48 := fun s => by kernel_rfl
theorem p_11_48 : GoodP 11 48 := fun s => by kernel_rfl
theorem c_11_49 : GoodC 11 49 := fun s => by kernel_rfl
theorem p_11_49 : GoodP 11 49 := fun s => by kernel_rfl
theorem c_11_50 : GoodC 11 50 := fun s => by kernel_rfl
theorem p_11_50 : GoodP 11 50 := fun s => by kernel_rfl
theorem c_11_51 : GoodC 11 51 := fun s => by kernel_rfl
theorem p_11_51 : GoodP 11 51 := fun s => by kernel_rfl
theorem c_11_52 : GoodC 11 52 := fun s => by kernel_rfl
theorem p_11_52 : GoodP 11 52 := fun s => by kernel_rfl
theorem c_11_53 : GoodC 11 53 := fun s => by kernel_rfl
theorem p_11_53 : GoodP 11 53 := fun s => by kernel_rfl
theorem c_11_54 : GoodC 11 54 := fun s => by kernel_rfl
theorem p_11_54 : GoodP 11 54 := fun s => by kernel_rfl
theorem c_11_55 : GoodC 11 55 := fun s => by kernel_rfl
theorem p_11_55 : GoodP 11 55 := fun s => by kernel_rfl
theorem c_11_56 : GoodC 11 56 := fun s => by kernel_rfl
theorem p_11_56 : GoodP 11 56 := fun s => by kernel_rfl
theorem c_11_57 : GoodC 11 57 := fun s => by kernel_rfl
theorem p_11_57 : GoodP 11 57 := fun s => by kernel_rfl
theorem c_11_58 : GoodC 11 58 := fun s => by kernel_rfl
theorem p_11_58 : GoodP 11 58 := fun s => by kernel_rfl
theorem c_11_59 : GoodC 11 59 := fun s => by kernel_rfl
theorem p_11_59 : GoodP 11 59 := fun s => by kernel_rfl
theorem c_11_60 : GoodC 11 60 := fun s => by kernel_rfl
theorem p_11_60 : GoodP 11 60 := fun s => by kernel_rfl
theorem c_12_1 : GoodC 12 1 := fun s => by kernel_rfl
theorem p_12_1 : GoodP 12 1 := fun s => by kernel_rfl
theorem c_12_2 : GoodC 12 2 := fun s => by kernel_rfl
theorem p_12_2 : GoodP 12 2 := fun s => by kernel_rfl
theorem c_12_3 : GoodC 12 3 := fun s => by kernel_rfl
theorem p_12_3 : GoodP 12 3 := fun s => by kernel_rfl
theorem c_12_4 : GoodC 12 4 := fun s => by kernel_rfl
theorem p_12_4 : GoodP 12 4 := fun s => by kernel_rfl
theorem c_12_5 : GoodC 12 5 := fun s => by kernel_rfl
theorem p_12_5 : GoodP 12 5 := fun s => by kernel_rfl
theorem c_12_6 : GoodC 12 6 := fun s => by kernel_rfl
theorem p_12_6 : GoodP 12 6 := fun s => by kernel_rfl
theorem c_12_7 : GoodC 12 7 := fun s => by kernel_rfl
theorem p_12_7 : GoodP 12 7 := fun s => by kernel_rfl
theorem c_12_8 : GoodC 12 8 := fun s => by kernel_rfl
theorem p_12_8 : GoodP 12 8 := fun s => by kernel_rfl
theorem c_12_9 : GoodC 12 9 := fun s => by kernel_rfl
theorem p_12_9 : GoodP 12 9 := fun s => by kernel_rfl
theorem c_12_10 : GoodC 12 10 := fun s => by kernel_rfl
theorem p_12_10 : GoodP 12 10 := fun s => by kernel_rfl
theorem c_12_11 : GoodC 12 11 := fun s => by kernel_rfl
theorem p_12_11 : GoodP 12 11 := fun s => by kernel_rfl
theorem c_12_12 : GoodC 12 12 := fun s => by kernel_rfl
theorem p_12_12 : GoodP 12 12 := fun s => by kernel_rfl
theorem c_12_13 : GoodC 12 13 := fun s => by kernel_rfl
theorem p_12_13 : GoodP 12 13 := fun s => by kernel_rfl
theorem c_12_14 : GoodC 12 14 := fun s => by kernel_rfl
theorem p_12_14 : GoodP 12 14 := fun s => by kernel_rfl
theorem c_12_15 : GoodC 12 15 := fun s => by kernel_rfl
theorem p_12_15 : GoodP 12 15 := fun s => by kernel_rfl
theorem c_12_16 : GoodC 12 16 := fun s => by kernel_rfl
theorem p_12_16 : GoodP 12 16 := fun s => by kernel_rfl
theorem c_12_17 : GoodC 12 17 := fun s => by kernel_rfl
theorem p_12_17 : GoodP 12 17 := fun s => by kernel_rfl
theorem c_12_18 : GoodC 12 18 := fun s => by kernel_rfl
theorem p_12_18 : GoodP 12 18 := fun s => by kernel_rfl
theorem c_12_19 : GoodC 12 19 := fun s => by kernel_rfl
theorem p_12_19 : GoodP 12 19 := fun s => by kernel_rfl
theorem c_12_20 : GoodC 12 20 := fun s => by kernel_rfl
theorem p_12_20 : GoodP 12 20 := fun s => by kernel_rfl
theorem c_12_21 : GoodC 12 21 := fun s => by kernel_rfl
theorem p_12_21 : GoodP 12 21 := fun s => by kernel_rfl
theorem c_12_22 : GoodC 12 22 := fun s => by kernel_rfl
theorem p_12_22 : GoodP 12 22 := fun s => by kernel_rfl
theorem c_12_23 : GoodC 12 23 := fun s => by kernel_rfl
theorem p_12_23 : GoodP 12 23 := fun s => by kernel_rfl
theorem c_12_24 : GoodC 12 24 := fun s => by kernel_rfl
theorem p_12_24 : GoodP 12 24 := fun s => by kernel_rfl
theorem c_12_25 : GoodC 12 25 := fun s => by kernel_rfl
theorem p_12_25 : GoodP 12 25 := fun s => by kernel_rfl
theorem c_12_26 : GoodC 12 26 := fun s => by kernel_rfl
theorem p_12_26 : GoodP 12 26 := fun s => by kernel_rfl
theorem c_12_27 : GoodC 12 27 := fun s => by kernel_rfl
theorem p_12_27 : GoodP 12 27 := fun s => by kernel_rfl
theorem c_12_28 : GoodC 12 28 := fun s => by kernel_rfl
theorem p_12_28 : GoodP 12 28 := fun s => by kernel_rfl
theorem c_12_29 : GoodC 12 29 := fun s => by kernel_rfl
theorem p_12_29 : GoodP 12 29 := fun s => by kernel_rfl
theorem c_12_30 : GoodC 12 30 := fun s => by kernel_rfl
theorem p_12_30 : GoodP 12 30 := fun s => by kernel_rfl
theorem c_12_31 : GoodC 12 31 := fun s => by kernel_rfl
theorem p_12_31 : GoodP 12 31 := fun s => by kernel_rfl
theorem c_12_32 : GoodC 12 32 := fun s => by kernel_rfl
theorem p_12_32 : GoodP 12 32 := fun s => by kernel_rfl
theorem c_12_33 : GoodC 12 33 := fun s => by kernel_rfl
theorem p_12_33 : GoodP 12 33 := fun s => by kernel_rfl
theorem c_12_34 : GoodC 12 34 := fun s => by kernel_rfl
theorem p_12_34 : GoodP 12 34 := fun s => by kernel_rfl
theorem c_12_35 : GoodC 12 35 := fun s => by kernel_rfl
theorem p_12_35 : GoodP 12 35 := fun s => by kernel_rfl
theorem c_12_36 : GoodC 12 36 := fun s => by kernel_rfl
theorem p_12_36 : GoodP 12 36 := fun s => by kernel_rfl
theorem c_12_37 : GoodC 12 37 := fun s => by kernel_rfl
theorem p_12_37 : GoodP 12 37 := fun s => by kernel_rfl
theorem c_12_38 : GoodC 12 38 := fun s => by kernel_rfl
theorem p_12_38 : GoodP 12 38 := fun s => by kernel_rfl
theorem c_12_39 : GoodC 12 39 := fun s => by kernel_rfl
theorem p_12_39 : GoodP 12 39 := fun s => by kernel_rfl
theorem c_12_40 : GoodC 12 40 := fun s => by kernel_rfl
theorem p_12_40 : GoodP 12 40 := fun s => by kernel_rfl
theorem c_12_41 : GoodC 12 41 := fun s => by kernel_rfl
theorem p_12_41 : GoodP 12 41 := fun s => by kernel_rfl
theorem c_12_42 : GoodC 12 42 := fun s => by kernel_rfl
theorem p_12_42 : GoodP 12 42 := fun s => by kernel_rfl
theorem c_12_43 : GoodC 12 43 := fun s => by kernel_rfl
theorem p_12_43 : GoodP 12 43 := fun s => by kernel_rfl
theorem c_12_44 : GoodC 12 44 := fun s => by kernel_rfl
theorem p_12_44 : GoodP 12 44 := fun s => by kernel_rfl
theorem c_12_45 : GoodC 12 45 := fun s => by kernel_rfl
theorem p_12_45 : GoodP 12 45 := fun s => by kernel_rfl
theorem c_12_46 : GoodC 12 46 := fun s => by kernel_rfl
theorem p_12_46 : GoodP 12 46 := fun s => by kernel_rfl
theorem c_12_47 : GoodC 12 47 := fun s => by kernel_rfl
theorem p_12_47 : GoodP 12 47 := fun s => by kernel_rfl
theorem c_12_48 : GoodC 12 48 := fun s => by kernel_rfl
theorem p_12_48 : GoodP 12 48 := fun s => by kernel_rfl
theorem c_12_49 : GoodC 12 49 := fun s => by kernel_rfl
theorem p_12_49 : GoodP 12 49 := fun s => by kernel_rfl
theorem c_12_50 : GoodC 12 50 := fun s => by kernel_rfl
theorem p_12_50 : GoodP 12 50 := fun s => by kernel_rfl
theorem c_12_51 : GoodC 12 51 := fun s => by kernel_rfl
theorem p_12_51 : GoodP 12 51 := fun s => by kernel_rfl
theorem c_12_52 : GoodC 12 52 := fun s => by kernel_rfl
theorem p_12_52 : GoodP 12 52 := fun s => by kernel_rfl
theorem c_12_53 : GoodC 12 53 := fun s => by kernel_rfl
theorem p_12_53 : GoodP 12 53 := fun s => by kernel_rfl
theorem c_12_54 : GoodC 12 54 := fun s => by kernel_rfl
theorem p_12_54 : GoodP 12 54 := fun s => by kernel_rfl
theorem c_12_55 : GoodC 12 55 := fun s => by kernel_rfl
theorem p_12_55 : GoodP 12 55 := fun s => by kernel_rfl
theorem c_12_56 : GoodC 12 56 := fun s => by kernel_rfl
theorem p_12_56 : GoodP 12 56 := fun s => by kernel_rfl
theorem c_12_57 : GoodC 12 57 := fun s => by kernel_rfl
theorem p_12_57 : GoodP 12 57 := fun s => by kernel_rfl
theorem c_12_58 : GoodC 12 58 := fun s => by kernel_rfl
theorem p_12_58 : GoodP 12 58 := fun s => by kernel_rfl
theorem c_12_59 : GoodC 12 59 := fun s => by kernel_rfl
theorem p_12_59 : GoodP 12 59 := fun s => by kernel_rfl
theorem c_12_60 : GoodC 12 60 := fun s => by kernel_rfl
theorem p_12_60 : GoodP 12 60 := fun s => by kernel_rfl
theorem c_0 : ∀ L : Nat, 1 ≤ L → L < 61 → GoodC 0 L
  | 1, _, _ => c_0_1
  | 2, _, _ => c_0_2
  | 3, _, _ => c_0_3
  | 4, _, _ => c_0_4
  | 5, _, _ => c_0_5
  | 6, _, _ => c_0_6
  | 7, _, _ => c_0_7
  | 8, _, _ => c_0_8
  | 9, _, _ => c_0_9
  | 10, _, _ => c_0_10
  | 11, _, _ => c_0_11
  | 12, _, _ => c_0_12
  | 13, _, _ => c_0_13
  | 14, _, _ => c_0_14
  | 15, _, _ => c_0_15
  | 16, _, _ => c_0_16
  | 17, _, _ => c_0_17
  | 18, _, _ => c_0_18
  | 19, _, _ => c_0_19
  | 20, _, _ => c_0_20
  | 21, _, _ => c_0_21
  | 22, _, _ => c_0_22
  | 23, _, _ => c_0_23
  | 24, _, _ => c_0_24
  | 25, _, _ => c_0_25
  | 26, _, _ => c_0_26
  | 27, _, _ => c_0_27
  | 28, _, _ => c_0_28
  | 29, _, _ => c_0_29
  | 30, _, _ => c_0_30
  | 31, _, _ => c_0_31
  | 32, _, _ => c_0_32
  | 33, _, _ => c_0_33
  | 34, _, _ => c_0_34
  | 35, _, _ => c_0_35
  | 36, _, _ => c_0_36
  | 37, _, _ => c_0_37
  | 38, _, _ => c_0_38
  | 39, _, _ => c_0_39
  | 40, _, _ => c_0_40
  | 41, _, _ => c_0_41
  | 42, _, _ => c_0_42
  | 43, _, _ => c_0_43
  | 44, _, _ => c_0_44
  | 45, _, _ => c_0_45
  | 46, _, _ => c_0_46
  | 47, _, _ => c_0_47
  | 48, _, _ => c_0_48
  | 49, _, _ => c_0_49
  | 50, _, _ => c_0_50
  | 51, _, _ => c_0_51
  | 52, _, _ => c_0_52
  | 53, _, _ => c_0_53
  | 54, _, _ => c_0_54
  | 55, _, _ => c_0_55
  | 56, _, _ => c_0_56
  | 57, _, _ => c_0_57
  | 58, _, _ => c_0_58
  | 59, _, _ => c_0_59
  | 60, _, _ => c_0_60
  | 0, h, _ => absurd h (by decide)
  | L + 61, _, h => absurd h (by omega)
theorem p_0 : ∀ L : Nat, 1 ≤ L → L < 61 → GoodP 0 L
  | 1, _, _ => p_0_1
  | 2, _, _ => p_0_2
  | 3, _, _ => p_0_3
  | 4, _, _ => p_0_4
  | 5, _, _ => p_0_5
  | 6, _, _ => p_0_6
  | 7, _, _ => p_0_7
  | 8, _, _ => p_0_8
  | 9, _, _ => p_0_9
  | 10, _, _ => p_0_10
  | 11, _, _ => p_0_11
  | 12, _, _ => p_0_12
  | 13, _, _ => p_0_13
  | 14, _, _ => p_0_14
  | 15, _, _ => p_0_15
  | 16, _, _ => p_0_16
  | 17, _, _ => p_0_17
  | 18, _, _ => p_0_18
  | 19, _, _ => p_0_19
  | 20, _, _ => p_0_20
  | 21, _, _ => p_0_21
  | 22, _, _ => p_0_22
  | 23, _, _ => p_0_23
  | 24, _, _ => p_0_24
  | 25, _, _ => p_0_25
  | 26, _, _ => p_0_26
  | 27, _, _ => p_0_27
  | 28, _, _ => p_0_28
  | 29, _, _ => p_0_29
  | 30, _, _ => p_0_30
  | 31, _, _ => p_0_31
  | 32, _, _ => p_0_32
  | 33, _, _ => p_0_33
  | 34, _, _ => p_0_34
  | 35, _, _ => p_0_35
  | 36, _, _ => p_0_36
  | 37, _, _ => p_0_37
  | 38, _, _ => p_0_38
  | 39, _, _ => p_0_39
  | 40, _, _ => p_0_40
  | 41, _, _ => p_0_41
  | 42, _, _ => p_0_42
  | 43, _, _ => p_0_43
  | 44, _, _ => p_0_44
  | 45, _, _ => p_0_45
  | 46, _, _ => p_0_46
  | 47, _, _ => p_0_47
  | 48, _, _ => p_0_48
  | 49, _, _ => p_0_49
  | 50, _, _ => p_0_50
  | 51, _, _ => p_0_51
  | 52, _, _ => p_0_52
  | 53, _, _ => p_0_53
  | 54, _, _ => p_0_54
  | 55, _, _ => p_0_55
  | 56, _, _ => p_0_56
  | 57, _, _ => p_0_57
  | 58, _, _ => p_0_58
  | 59, _, _ => p_0_59
  | 60, _, _ => p_0_60
  | 0, h, _ => absurd h (by decide)
  | L + 61, _, h => absurd h (by omega)
theorem c_1 : ∀ L : Nat, 1 ≤ L → L < 61 → GoodC 1 L
  | 1, _, _ => c_1_1
  | 2, _, _ => c_1_2
  | 3, _, _ => c_1_3
  | 4, _, _ => c_1_4
  | 5, _, _ => c_1_5
  | 6, _, _ => c_1_6
  | 7, _, _ => c_1_7
  | 8, _, _ => c_1_8
  | 9, _, _ => c_1_9
  | 10, _, _ => c_1_10
  | 11, _, _ => c_1_11
  | 12, _, _ => c_1_12
  | 13, _, _ => c_1_13
  | 14, _, _ => c_1_14
  | 15, _, _ => c_1_15
  | 16, _, _ => c_1_16
  | 17, _, _ => c_1_17
  | 18, _, _ => c_1_18
  | 19, _, _ => c_1_19
  | 20, _, _ => c_1_20
  | 21, _, _ => c_1_21
  | 22, _, _ => c_1_22
  | 23, _, _ => c_1_23
  | 24, _, _ => c_1_24
  | 25, _, _ => c_1_25
  | 26, _, _ => c_1_26
  | 27, _, _ => c_1_27
  | 28, _, _ => c_1_28
  | 29, _, _ => c_1_29
  | 30, _, _ => c_1_30
  | 31, _, _ => c_1_31
  | 32, _, _ => c_1_32
  | 33, _, _ => c_1_33
  | 34, _, _ => c_1_34
  | 35, _, _ => c_1_35
  | 36, _, _ => c_1_36
  | 37, _, _ => c_1_37
  | 38, _, _ => c_1_38
  | 39, _, _ => c_1_39
  | 40, _, _ => c_1_40
  | 41, _, _ => c_1_41
  | 42, _, _ => c_1_42
  | 43, _, _ => c_1_43
  | 44, _, _ => c_1_44
  | 45, _, _ => c_1_45
  | 46, _, _ => c_1_46
  | 47, _, _ => c_1_47
  | 48, _, _ => c_1_48
  | 49, _, _ => c_1_49
  | 50, _, _ => c_1_50
  | 51, _, _ => c_1_51
  | 52, _, _ => c_1_52
  | 53, _, _ => c_1_53
  | 54, _, _ => c_1_54
  | 55, _, _ => c_1_55
  | 56, _, _ => c_1_56
  | 57, _, _ => c_1_57
  | 58, _, _ => c_1_58
  | 59, _, _ => c_1_59
  | 60, _, _ => c_1_60
  | 0, h, _ => absurd h (by decide)
  | L + 61, _, h => absurd h (by omega)
theorem p_1 : ∀ L : Nat, 1 ≤ L → L < 61 → GoodP 1 L
  | 1, _, _ => p_1_1
  | 2, _, _ => p_1_2
  | 3, _, _ => p_1_3
  | 4, _, _ => p_1_4
  | 5, _, _ => p_1_5
  | 6, _, _ => p_1_6
  | 7, _, _ => p_1_7
  | 8, _, _ => p_1_8
  | 9, _, _ => p_1_9
  | 10, _, _ => p_1_10
  | 11, _, _ => p_1_11
  | 12, _, _ => p_1_12
  | 13, _, _ => p_1_13
  | 14, _, _ => p_1_14
  | 15, _, _ => p_1_15
  | 16, _, _ => p_1_16
  | 17, _, _ => p_1_17
  | 18, _, _ => p_1_18
  | 19, _, _ => p_1_19
  | 20, _, _ => p_1_20
  | 21, _, _ => p_1_21
  | 22, _, _ => p_1_22
  | 23, _, _ => p_1_23
  | 24, _, _ => p_1_24
  | 25, _, _ => p_1_25
  | 26, _, _ => p_1_26
  | 27, _, _ => p_1_27
  | 28, _, _ => p_1_28
  | 29, _, _ => p_1_29
  | 30, _, _ => p_1_30
  | 31, _, _ => p_1_31
  | 32, _, _ => p_1_32
  | 33, _, _ => p_1_33
  | 34, _, _ => p_1_34
  | 35, _, _ => p_1_35
  | 36, _, _ => p_1_36
  | 37, _, _ => p_1_37
  | 38, _, _ => p_1_38
  | 39, _, _ => p_1_39
  | 40, _, _ => p_1_40
  | 41, _, _ => p_1_41
  | 42, _, _ => p_1_42
  | 43, _, _ => p_1_43
  | 44, _, _ => p_1_44
  | 45, _, _ => p_1_45
  | 46, _, _ => p_1_46
  | 47, _, _ => p_1_47
  | 48, _, _ => p_1_48
  | 49, _, _ => p_1_49
  | 50, _, _ => p_1_50
  | 51, _, _ => p_1_51
  | 52, _, _ => p_1_52
  | 53, _, _ => p_1_53
  | 54, _, _ => p_1_54
  | 55, _, _ => p_1_55
  | 56, _, _ => p_1_56
  | 57, _, _ => p_1_57
  | 58, _, _ => p_1_58
  | 59, _, _ => p_1_59
  | 60, _, _ => p_1_60
  | 0, h, _ => absurd h (by decide)
  | L + 61, _, h => absurd h (by omega)
theorem c_2 : ∀ L : Nat, 1 ≤ L → L < 61 → GoodC 2 L
  | 1, _, _ => c_2_1
  | 2, _, _ => c_2_2
  | 3, _, _ => c_2_3
  | 4, _, _ => c_2_4
  | 5, _, _ => c_2_5
  | 6, _, _ => c_2_6
  | 7, _, _ => c_2_7
  | 8, _, _ => c_2_8
  | 9, _, _ => c_2_9
  | 10, _, _ => c_2_10
  | 11, _, _ => c_2_11
  | 12, _, _ => c_2_12
  | 13, _, _ => c_2_13
  | 14, _, _ => c_2_14
  | 15, _, _ => c_2_15
  | 16, _, _ => c_2_16
  | 17, _, _ => c_2_17
  | 18, _, _ => c_2_18
  | 19, _, _ => c_2_19
  | 20, _, _ => c_2_20
  | 21, _, _ => c_2_21
  | 22, _, _ => c_2_22
  | 23, _, _ => c_2_23
  | 24, _, _ => c_2_24
  | 25, _, _ => c_2_25
  | 26, _, _ => c_2_26
  | 27, _, _ => c_2_27
  | 28, _, _ => c_2_28
  | 29, _, _ => c_2_29
  | 30, _, _ => c_2_30
  | 31, _, _ => c_2_31
  | 32, _, _ => c_2_32
  | 33, _, _ => c_2_33
  | 34, _, _ => c_2_34
  | 35, _, _ => c_2_35
  | 36, _, _ => c_2_36
  | 37, _, _ => c_2_37
  | 38, _, _ => c_2_38
  | 39, _, _ => c_2_39
  | 40, _, _ => c_2_40
  | 41, _, _ => c_2_41
  | 42, _, _ => c_2_42
  | 43, _, _ => c_2_43
  | 44, _, _ => c_2_44
  | 45, _, _ => c_2_45
  | 46, _, _ => c_2_46
  | 47, _, _ => c_2_47
  | 48, _, _ => c_2_48
  | 49, _, _ => c_2_49
  | 50, _, _ => c_2_50
  | 51, _, _ => c_2_51
  | 52, _, _ => c_2_52
  | 53, _, _ => c_2_53
  | 54, _, _ => c_2_54
  | 55, _, _ => c_2_55
  | 56, _, _ => c_2_56
  | 57, _, _ => c_2_57
  | 58, _, _ => c_2_58
  | 59, _, _ => c_2_59
  | 60, _, _ => c_2_60
  | 0, h, _ => absurd h (by decide)
  | L + 61, _, h => absurd h (by omega)
theorem p_2 : ∀ L : Nat, 1 ≤ L → L < 61 → GoodP 2 L
  | 1, _, _ => p_2_1
  | 2, _, _ => p_2_2
  | 3, _, _ => p_2_3
  | 4, _, _ => p_2_4
  | 5, _, _ => p_2_5
  | 6, _, _ => p_2_6
  | 7, _, _ => p_2_7
  | 8, _, _ => p_2_8
  | 9, _, _ => p_2_9
  | 10, _, _ => p_2_10
  | 11, _, _ => p_2_11
  | 12, _, _ => p_2_12
  | 13, _, _ => p_2_13
  | 14, _, _ => p_2_14
  | 15, _, _ => p_2_15
  | 16, _, _ => p_2_16
  | 17, _, _ => p_2_17
  | 18, _, _ => p_2_18
  | 19, _, _ => p_2_19
  | 20, _, _ => p_2_20
  | 21, _, _ => p_2_21
  | 22, _, _ => p_2_22
  | 23, _, _ => p_2_23
  | 24, _, _ => p_2_24
  | 25, _, _ => p_2_25
  | 26, _, _ => p_2_26
  | 27, _, _ => p_2_27
  | 28, _, _ => p_2_28
  | 29, _, _ => p_2_29
  | 30, _, _ => p_2_30
  | 31, _, _ => p_2_31
  | 32, _, _ => p_2_32
  | 33, _, _ => p_2_33
  | 34, _, _ => p_2_34
  | 35, _, _ => p_2_35
  | 36, _, _ => p_2_36
  | 37, _, _ => p_2_37
  | 38, _, _ => p_2_38
  | 39, _, _ => p_2_39
  | 40, _, _ => p_2_40
  | 41, _, _ => p_2_41
  | 42, _, _ => p_2_42
  | 43, _, _ => p_2_43
  | 44, _, _ => p_2_44
  | 45, _, _ => p_2_45
  | 46, _, _ => p_2_46
  | 47, _, _ => p_2_47
  | 48, _, _ => p_2_48
  | 49, _, _ => p_2_49
  | 50, _, _ => p_2_50
  | 51, _, _ => p_2_51
  | 52, _, _ => p_2_52
  | 53, _, _ => p_2_53
  | 54, _, _ => p_2_54
  | 55, _, _ => p_2_55
  | 56, _, _ => p_2_56
  | 57, _, _ => p_2_57
  | 58, _, _ => p_2_58
  | 59, _, _ => p_2_59
  | 60, _, _ => p_2_60
  | 0, h, _ => absurd h (by decide)
  | L + 61, _, h => absurd h (by omega)
theorem c_3 : ∀ L : Nat, 1 ≤ L → L < 61 → GoodC 3 L
  | 1, _, _ => c_3_1
  | 2, _, _ => c_3_2
  | 3, _, _ => c_3_3
  | 4, _, _ => c_3_4
  | 5, _, _ => c_3_5
  | 6, _, _ => c_3_6
  | 7, _, _ => c_3_7
  | 8, _, _ => c_3_8
  | 9, _, _ => c_3_9
  | 10, _, _ => c_3_10
  | 11, _, _ => c_3_11
  | 12, _, _ => c_3_12
  | 13, _, _ => c_3_13
  | 14, _, _ => c_3_14
  | 15, _, _ => c_3_15
  | 16, _, _ => c_3_16
  | 17, _, _ => c_3_17
  | 18, _, _ => c_3_18
  | 19, _, _ => c_3_19
  | 20, _, _ => c_3_20
  | 21, _, _ => c_3_21
  | 22, _, _ => c_3_22
  | 23, _, _ => c_3_23
  | 24, _, _ => c_3_24
  | 25, _, _ => c_3_25
  | 26, _, _ => c_3_26
  | 27, _, _ => c_3_27
  | 28, _, _ => c_3_28
  | 29, _, _ => c_3_29
  | 30, _, _ => c_3_30
  | 31, _, _ => c_3_31
  | 32, _, _ => c_3_32
  | 33, _, _ => c_3_33
  | 34, _, _ => c_3_34
  | 35, _, _ => c_3_35
  | 36, _, _ => c_3_36
  | 37, _, _ => c_3_37
  | 38, _, _ => c_3_38
  | 39, _, _ => c_3_39
  | 40, _, _ => c_3_40
  | 41, _, _ => c_3_41
  | 42, _, _ => c_3_42
  | 43, _, _ => c_3_43
  | 44, _, _ => c_3_44
  | 45, _, _ => c_3_45
  | 46, _, _ => c_3_46
  | 47, _, _ => c_3_47
  | 48, _, _ => c_3_48
  | 49, _, _ => c_3_49
  | 50, _, _ => c_3_50
  | 51, _, _ => c_3_51
  | 52, _, _ => c_3_52
  | 53, _, _ => c_3_53
  | 54, _, _ => c_3_54
  | 55, _, _ => c_3_55
  | 56, _, _ => c_3_56
  | 57, _, _ => c_3_57
  | 58, _, _ => c_3_58
  | 59, _, _ => c_3_59
  | 60, _, _ => c_3_60
  | 0, h, _ => absurd h (by decide)
  | L + 61, _, h => absurd h (by omega)
theorem p_3 : ∀ L : Nat, 1 ≤ L → L < 61 → GoodP 3 L
  | 1, _, _ => p_3_1
  | 2, _, _ => p_3_2
  | 3, _, _ => p_3_3
  | 4, _, _ => p_3_4
  | 5, _, _ => p_3_5
  | 6, _, _ => p_3_6
  | 7, _, _ => p_3_7
  | 8, _, _ => p_3_8
  | 9, _, _ => p_3_9
  | 10, _, _ => p_3_10
  | 11, _, _ => p_3_11
  | 12, _, _ => p_3_12
  | 13, _, _ => p_3_13
  | 14, _, _ => p_3_14
  | 15, _, _ => p_3_15
  | 16, _, _ => p_3_16
  | 17, _, _ => p_3_17
  | 18, _, _ => p_3_18
  | 19, _, _ => p_3_19
  | 20, _, _ => p_3_20
  | 21, _, _ => p_3_21
  | 22, _, _ => p_3_22
  | 23, _, _ => p_3_23
  | 24, _, _ => p_3_24
  | 25, _, _ => p_3_25
  | 26, _, _ => p_3_26
  | 27, _, _ => p_3_27
  | 28, _, _ => p_3_28
  | 29, _, _ => p_3_29
  | 30, _, _ => p_3_30
  | 31, _, _ => p_3_31
  | 32, _, _ => p_3_32
  | 33, _, _ => p_3_33
  | 34, _, _ => p_3_34
  | 35, _, _ => p_3_35
  | 36, _, _ => p_3_36
  | 37, _, _ => p_3_37
  | 38, _, _ => p_3_38
  | 39, _, _ => p_3_39
  | 40, _, _ => p_3_40
  | 41, _, _ => p_3_41
  | 42, _, _ => p_3_42
  | 43, _, _ => p_3_43
  | 44, _, _ => p_3_44
  | 45, _, _ => p_3_45
  | 46, _, _ => p_3_46
  | 47, _, _ => p_3_47
  | 48, _, _ => p_3_48
  | 49, _, _ => p_3_49
  | 50, _, _ => p_3_50
  | 51, _, _ => p_3_51
  | 52, _, _ => p_3_52
  | 53, _, _ => p_3_53
  | 54, _, _ => p_3_54
  | 55, _, _ => p_3_55
  | 56, _, _ => p_3_56
  | 57, _, _ => p_3_57
  | 58, _, _ => p_3_58
  | 59, _, _ => p_3_59
  | 60, _, _ => p_3_60
  | 0, h, _ => absurd h (by decide)
  | L + 61, _, h => absurd h (by omega)
theorem c_4 : ∀ L : Nat, 1 ≤ L → L < 61 → GoodC 4 L
  | 1, _, _ => c_4_1
  | 2, _, _ => c_4_2
  | 3, _, _ => c_4_3
  | 4, _, _ => c_4_4
  | 5, _, _ => c_4_5
  | 6, _, _ => c_4_6
  | 7, _, _ => c_4_7
  | 8, _, _ => c_4_8
  | 9, _, _ => c_4_9
  | 10, _, _ => c_4_10
  | 11, _, _ => c_4_11
  | 12, _, _ => c_4_12
  | 13, _, _ => c_4_13
  | 14, _, _ => c_4_14
  | 15, _, _ => c_4_15
  | 16, _, _ => c_4_16
  | 17, _, _ => c_4_17
  | 18, _, _ => c_4_18
  | 19, _, _ => c_4_19
  | 20, _, _ => c_4_20
  | 21, _, _ => c_4_21
  | 22, _, _ => c_4_22
  | 23, _, _ => c_4_23
  | 24, _, _ => c_4_24
  | 25, _, _ => c_4_25
  | 26, _, _ => c_4_26
  | 27, _, _ => c_4_27
  | 28, _, _ => c_4_28
  | 29, _, _ => c_4_29
  | 30, _, _ => c_4_30
  | 31, _, _ => c_4_31
  | 32, _, _ => c_4_32
  | 33, _, _ => c_4_33
  | 34, _, _ => c_4_34
  | 35, _, _ => c_4_35
  | 36, _, _ => c_4_36
  | 37, _, _ => c_4_37
  | 38, _, _ => c_4_38
  | 39, _, _ => c_4_39
  | 40, _, _ => c_4_40
  | 41, _, _ => c_4_41
  | 42, _, _ => c_4_42
  | 43, _, _ => c_4_43
  | 44, _, _ => c_4_44
  | 45, _, _ => c_4_45
  | 46, _, _ => c_4_46
  | 47, _, _ => c_4_47
  | 48, _, _ => c_4_48
  | 49, _, _ => c_4_49
  | 50, _, _ => c_4_50
  | 51, _, _ => c_4_51
  | 52, _, _ => c_4_52
  | 53, _, _ => c_4_53
  | 54, _, _ => c_4_54
  | 55, _, _ => c_4_55
  | 56, _, _ => c_4_56
  | 57, _, _ => c_4_57
  | 58, _, _ => c_4_58
  | 59, _, _ => c_4_59
  | 60, _, _ => c_4_60
  | 0, h, _ => absurd h (by decide)
  | L + 61, _, h => absurd h (by omega)
theorem p_4 : ∀ L : Nat, 1 ≤ L → L < 61 → GoodP 4 L
  | 1, _, _ => p_4_1
  | 2, _, _ => p_4_2
  | 3, _, _ => p_4_3
  | 4, _, _ => p_4_4
  | 5, _, _ => p_4_5
  | 6, _, _ => p_4_6
  | 7, _, _ => p_4_7
  | 8, _, _ => p_4_8
  | 9, _, _ => p_4_9
  | 10, _, _ => p_4_10
  | 11, _, _ => p_4_11
  | 12, _, _ => p_4_12
  | 13, _, _ => p_4_13
  | 14, _, _ => p_4_14
  | 15, _, _ => p_4_15
  | 16, _, _ => p_4_16
  | 17, _, _ => p_4_17
  | 18, _, _ => p_4_18
  | 19, _, _ => p_4_19
  | 20, _, _ => p_4_20
  | 21, _, _ => p_4_21
  | 22, _, _ => p_4_22
  | 23, _, _ => p_4_23
  | 24, _, _ => p_4_24
  | 25, _, _ => p_4_25
  | 26, _, _ => p_4_26
  | 27, _, _ => p_4_27
  | 28, _, _ => p_4_28
  | 29, _, _ => p_4_29
  | 30, _, _ => p_4_30
  | 31, _, _ => p_4_31
  | 32, _, _ => p_4_32
  | 33, _, _ => p_4_33
  | 34, _, _ => p_4_34
  | 35, _, _ => p_4_35
  | 36, _, _ => p_4_36
  | 37, _, _ => p_4_37
  | 38, _, _ => p_4_38
  | 39, _, _ => p_4_39
  | 40, _, _ => p_4_40
  | 41, _, _ => p_4_41
  | 42, _, _ => p_4_42
  | 43, _, _ => p_4_43
  | 44, _, _ => p_4_44
  | 45, _, _ => p_4_45
  | 46, _, _ => p_4_46
  | 47, _, _ => p_4_47
  | 48, _, _ => p_4_48
  | 49, _, _ => p_4_49
  | 50, _, _ => p_4_50
  | 51, _, _ => p_4_51
  | 52, _, _ => p_4_52
  | 53, _, _ => p_4_53
  | 54, _, _ => p_4_54
  | 55, _, _ => p_4_55
  | 56, _, _ => p_4_56
  | 57, _, _ => p_4_57
  | 58, _, _ => p_4_58
  | 59, _, _ => p_4_59
  | 60, _, _ => p_4_60
  | 0, h, _ => absurd h (by decide)
  | L + 61, _, h => absurd h (by omega)
theorem c_5 : ∀ L : Nat, 1 ≤ L → L < 61 → GoodC 5 L
  | 1, _, _ => c_5_1
  | 2, _, _ => c_5_2
  | 3, _, _ => c_5_3
  | 4, _, _ => c_5_4
  | 5, _, _ => c_5_5
  | 6, _, _ => c_5_6
  | 7, _, _ => c_5_7
  | 8, _, _ => c_5_8
  | 9, _, _ => c_5_9
  | 10, _, _ => c_5_10
  | 11, _, _ => c_5_11
  | 12, _, _ => c_5_12
  | 13, _, _ => c_5_13
  | 14, _, _ => c_5_14
  | 15, _, _ => c_5_15
  | 16, _, _ => c_5_16
  | 17, _, _ => c_5_17
  | 18, _, _ => c_5_18
  | 19, _, _ => c_5_19
  | 20, _, _ => c_5_20
  | 21, _, _ => c_5_21
  | 22, _, _ => c_5_22
  | 23, _, _ => c_5_23
  | 24, _, _ => c_5_24
  | 25, _, _ => c_5_25
  | 26, _, _ => c_5_26
  | 27, _, _ => c_5_27
  | 28, _, _ => c_5_28
  | 29, _, _ => c_5_29
  | 30, _, _ => c_5_30
  | 31, _, _ => c_5_31
  | 32, _, _ => c_5_32
  | 33, _, _ => c_5_33
  | 34, _, _ => c_5_34
  | 35, _, _ => c_5_35
  | 36, _, _ => c_5_36
  | 37, _, _ => c_5_37
  | 38, _, _ => c_5_38
  | 39, _, _ => c_5_39
  | 40, _, _ => c_5_40
  | 41, _, _ => c_5_41
  | 42, _, _ => c_5_42
  | 43, _, _ => c_5_43
  | 44, _, _ => c_5_44
  | 45, _, _ => c_5_45
  | 46, _, _ => c_5_46
  | 47, _, _ => c_5_47
  | 48, _, _ => c_5_48
  | 49, _, _ => c_5_49
  | 50, _, _ => c_5_50
  | 51, _, _ => c_5_51
  | 52, _, _ => c_5_52
  | 53, _, _ => c_5_53
  | 54, _, _ => c_5_54
  | 55, _, _ => c_5_55
  | 56, _, _ => c_5_56
  | 57, _, _ => c_5_57
  | 58, _, _ => c_5_58
  | 59, _, _ => c_5_59
  | 60, _, _ => c_5_60
  | 0, h, _ => absurd h (by decide)
  | L + 61, _, h => absurd h (by omega)
theorem p_5 : ∀ L : Nat, 1 ≤ L → L < 61 → GoodP 5 L
  | 1, _, _ => p_5_1
  | 2, _, _ => p_5_2
  | 3, _, _ => p_5_3
  | 4, _, _ => p_5_4
  | 5, _, _ => p_5_5
  | 6, _, _ => p_5_6
  | 7, _, _ => p_5_7
  | 8, _, _ => p_5_8
  | 9, _, _ => p_5_9
  | 10, _, _ => p_5_10
  | 11, _, _ => p_5_11
  | 12, _, _ => p_5_12
  | 13, _, _ => p_5_13
  | 14, _, _ => p_5_14
  | 15, _, _ => p_5_15
  | 16, _, _ => p_5_16
  | 17, _, _ => p_5_17
  | 18, _, _ => p_5_18
  | 19, _, _ => p_5_19
  | 20, _, _ => p_5_20
  | 21, _, _ => p_5_21
  | 22, _, _ => p_5_22
  | 23, _, _ => p_5_23
  | 24, _, _ => p_5_24
  | 25, _, _ => p_5_25
  | 26, _, _ => p_5_26
  | 27, _, _ => p_5_27
  | 28, _, _ => p_5_28
  | 29, _, _ => p_5_29
  | 30, _, _ => p_5_30
  | 31, _, _ => p_5_31
  | 32, _, _ => p_5_32
  | 33, _, _ => p_5_33
  | 34, _, _ => p_5_34
  | 35, _, _ => p_5_35
  | 36, _, _ => p_5_36
  | 37, _, _ => p_5_37
  | 38, _, _ => p_5_38
  | 39, _, _ => p_5_39
  | 40, _, _ => p_5_40
  | 41, _, _ => p_5_41
  | 42, _, _ => p_5_42
  | 43, _, _ => p_5_43
  | 44, _, _ => p_5_44
  | 45, _, _ => p_5_45
  | 46, _, _ => p_5_46
  | 47, _, _ => p_5_47
  | 48, _, _ => p_5_48
  | 49, _, _ => p_5_49
  | 50, _, _ => p_5_50
  | 51, _, _ => p_5_51
  | 52, _, _ => p_5_52
  | 53, _, _ => p_5_53
  | 54, _, _ => p_5_54
  | 55, _, _ => p_5_55
  | 56, _, _ => p_5_56
  | 57, _, _ => p_5_57
  | 58, _, _ => p_5_58
  | 59, _, _ => p_5_59
  | 60, _, _ => p_5_60
  | 0, h, _ => absurd h (by decide)
  | L + 61, _, h => absurd h (by omega)
theorem c_6 : ∀ L : Nat, 1 ≤ L → L < 61 → GoodC 6 L
  | 1, _, _ => c_6_1
  | 2, _, _ => c_6_2
  | 3, _, _ => c_6_3
  | 4, _, _ => c_6_4
  | 5, _, _ => c_6_5
  | 6, _, _ => c_6_6
  | 7, _, _ => c_6_7
  | 8, _, _ => c_6_8
  | 9, _, _ => c_6_9
  | 10, _, _ => c_6_10
  | 11, _, _ => c_6_11
  | 12, _, _ => c_6_12
  | 13, _, _ => c_6_13
  | 14, _, _ => c_6_14
  | 15, _, _ => c_6_15
  | 16, _, _ => c_6_16
  | 17, _, _ => c_6_17
  | 18, _, _ => c_6_18
  | 19, _, _ => c_6_19
  | 20, _, _ => c_6_20
  | 21, _, _ => c_6_21
  | 22, _, _ => c_6_22
  | 23, _, _ => c_6_23
  | 24, _, _ => c_6_24
  | 25, _, _ => c_6_25
  | 26, _, _ => c_6_26
  | 27, _, _ => c_6_27
  | 28, _, _ => c_6_28
  | 29, _, _ => c_6_29
  | 30, _, _ => c_6_30
  | 31, _, _ => c_6_31
  | 32, _, _ => c_6_32
  | 33, _, _ => c_6_33
  | 34, _, _ => c_6_34
  | 35, _, _ => c_6_35
  | 36, _, _ => c_6_36
  | 37, _, _ => c_6_37
  | 38, _, _ => c_6_38
  | 39, _, _ => c_6_39
  | 40, _, _ => c_6_40
  | 41, _, _ => c_6_41
  | 42, _, _ => c_6_42
  | 43, _, _ => c_6_43
  | 44, _, _ => c_6_44
  | 45, _, _ => c_6_45
  | 46, _, _ => c_6_46
  | 47, _, _ => c_6_47
  | 48, _, _ => c_6_48
  | 49, _, _ => c_6_49
  | 50, _, _ => c_6_50
  | 51, _, _ => c_6_51
  | 52, _, _ => c_6_52
  | 53, _, _ => c_6_53
  | 54, _, _ => c_6_54
  | 55, _, _ => c_6_55
  | 56, _, _ => c_6_56
  | 57, _, _ => c_6_57
  | 58, _, _ => c_6_58
  | 59, _, _ => c_6_59
  | 60, _, _ => c_6_60
  | 0, h, _ => absurd h (by decide)
  | L + 61, _, h => absurd h (by omega)
theorem c_7 : ∀ L : Nat, 1 ≤ L → L < 61 → GoodC 7 L
  | 1, _, _ => c_7_1
  | 2, _, _ => c_7_2
  | 3, _, _ => c_7_3
  | 4, _, _ => c_7_4
  | 5, _, _ => c_7_5
  | 6, _, _ => c_7_6
  | 7, _, _ => c_7_7
  | 8, _, _ => c_7_8
  | 9, _, _ => c_7_9
  | 10, _, _ => c_7_10
  | 11, _, _ => c_7_11
  | 12, _, _ => c_7_12
  | 13, _, _ => c_7_13
  | 14, _, _ => c_7_14
  | 15, _, _ => c_7_15
  | 16, _, _ => c_7_16
  | 17, _, _ => c_7_17
  | 18, _, _ => c_7_18
  | 19, _, _ => c_7_19
  | 20, _, _ => c_7_20
  | 21, _, _ => c_7_21
  | 22, _, _ => c_7_22
  | 23, _, _ => c_7_23
  | 24, _, _ => c_7_24
  | 25, _, _ => c_7_25
  | 26, _, _ => c_7_26
  | 27, _, _ => c_7_27
  | 28, _, _ => c_7_28
  | 29, _, _ => c_7_29
  | 30, _, _ => c_7_30
  | 31, _, _ => c_7_31
  | 32, _, _ => c_7_32
  | 33, _, _ => c_7_33
  | 34, _, _ => c_7_34
  | 35, _, _ => c_7_35
  | 36, _, _ => c_7_36
  | 37, _, _ => c_7_37
  | 38, _, _ => c_7_38
  | 39, _, _ => c_7_39
  | 40, _, _ => c_7_40
  | 41, _, _ => c_7_41
  | 42, _, _ => c_7_42
  | 43, _, _ => c_7_43
  | 44, _, _ => c_7_44
  | 45, _, _ => c_7_45
  | 46, _, _ => c_7_46
  | 47, _, _ => c_7_47
  | 48, _, _ => c_7_48
  | 49, _, _ => c_7_49
  | 50, _, _ => c_7_50
  | 51, _, _ => c_7_51
  | 52, _, _ => c_7_52
  | 53, _, _ => c_7_53
  | 54, _, _ => c_7_54
  | 55, _, _ => c_7_55
  | 56, _, _ => c_7_56
  | 57, _, _ => c_7_57
  | 58, _, _ => c_7_58
  | 59, _, _ => c_7_59
  | 60, _, _ => c_7_60
  | 0, h, _ => absurd h (by decide)
  | L + 61, _, h => absurd h (by omega)
theorem p_7 : ∀ L : Nat, 1 ≤ L → L < 61 → GoodP 7 L
  | 1, _, _ => p_7_1
  | 2, _, _ => p_7_2
  | 3, _, _ => p_7_3
  | 4, _, _ => p_7_4
  | 5, _, _ => p_7_5
  | 6, _, _ => p_7_6
  | 7, _, _ => p_7_7
  | 8, _, _ => p_7_8
  | 9, _, _ => p_7_9
  | 10, _, _ => p_7_10
  | 11, _, _ => p_7_11
  | 12, _, _ => p_7_12
  | 13, _, _ => p_7_13
  | 14, _, _ => p_7_14
  | 15, _, _ => p_7_15
  | 16, _, _ => p_7_16
  | 17, _, _ => p_7_17
  | 18, _, _ => p_7_18
  | 19, _, _ => p_7_19
  | 20, _, _ => p_7_20
  | 21, _, _ => p_7_21
  | 22, _, _ => p_7_22
  | 23, _, _ => p_7_23
  | 24, _, _ => p_7_24
  | 25, _, _ => p_7_25
  | 26, _, _ => p_7_26
  | 27, _, _ => p_7_27
  | 28, _, _ => p_7_28
  | 29, _, _ => p_7_29
  | 30, _, _ => p_7_30
  | 31, _, _ => p_7_31
  | 32, _, _ => p_7_32
  | 33, _, _ => p_7_33
  | 34, _, _ => p_7_34
  | 35, _, _ => p_7_35
  | 36, _, _ => p_7_36
  | 37, _, _ => p_7_37
  | 38, _, _ => p_7_38
  | 39, _, _ => p_7_39
  | 40, _, _ => p_7_40
  | 41, _, _ => p_7_41
  | 42, _, _ => p_7_42
  | 43, _, _ => p_7_43
  | 44, _, _ => p_7_44
  | 45, _, _ => p_7_45
  | 46, _, _ => p_7_46
  | 47, _, _ => p_7_47
  | 48, _, _ => p_7_48
  | 49, _, _ => p_7_49
  | 50, _, _ => p_7_50
  | 51, _, _ => p_7_51
  | 52, _, _ => p_7_52
  | 53, _, _ => p_7_53
  | 54, _, _ => p_7_54
  | 55, _, _ => p_7_55
  | 56, _, _ => p_7_56
  | 57, _, _ => p_7_57
  | 58, _, _ => p_7_58
  | 59, _, _ => p_7_59
  | 60, _, _ => p_7_60
  | 0, h, _ => absurd h (by decide)
  | L + 61, _, h => absurd h (by omega)
theorem c_8 : ∀ L : Nat, 1 ≤ L → L < 61 → GoodC 8 L
  | 1, _, _ => c_8_1
  | 2, _, _ => c_8_2
  | 3, _, _ => c_8_3
  | 4, _, _ => c_8_4
  | 5, _, _ => c_8_5
  | 6, _, _ => c_8_6
  | 7, _, _ => c_8_7
  | 8, _, _ => c_8_8
  | 9, _, _ => c_8_9
  | 10, _, _ => c_8_10
  | 11, _, _ => c_8_11
  | 12, _, _ => c_8_12
  | 13, _, _ => c_8_13
  | 14, _, _ => c_8_14
  | 15, _, _ => c_8_15
  | 16, _, _ => c_8_16
  | 17, _, _ => c_8_17
  | 18, _, _ => c_8_18
  | 19, _, _ => c_8_19
  | 20, _, _ => c_8_20
  | 21, _, _ => c_8_21
  | 22, _, _ => c_8_22
  | 23, _, _ => c_8_23
  | 24, _, _ => c_8_24
  | 25, _, _ => c_8_25
  | 26, _, _ => c_8_26
  | 27, _, _ => c_8_27
  | 28, _, _ => c_8_28
  | 29, _, _ => c_8_29
  | 30, _, _ => c_8_30
  | 31, _, _ => c_8_31
  | 32, _, _ => c_8_32
  | 33, _, _ => c_8_33
  | 34, _, _ => c_8_34
  | 35, _, _ => c_8_35
  | 36, _, _ => c_8_36
  | 37, _, _ => c_8_37
  | 38, _, _ => c_8_38
  | 39, _, _ => c_8_39
  | 40, _, _ => c_8_40
  | 41, _, _ => c_8_41
  | 42, _, _ => c_8_42
  | 43, _, _ => c_8_43
  | 44, _, _ => c_8_44
  | 45, _, _ => c_8_45
  | 46, _, _ => c_8_46
  | 47, _, _ => c_8_47
  | 48, _, _ => c_8_48
  | 49, _, _ => c_8_49
  | 50, _, _ => c_8_50
  | 51, _, _ => c_8_51
  | 52, _, _ => c_8_52
  | 53, _, _ => c_8_53
  | 54, _, _ => c_8_54
  | 55, _, _ => c_8_55
  | 56, _, _ => c_8_56
  | 57, _, _ => c_8_57
  | 58, _, _ => c_8_58
  | 59, _, _ => c_8_59
  | 60, _, _ => c_8_60
  | 0, h, _ => absurd h (by decide)
  | L + 61, _, h => absurd h (by omega)
theorem p_8 : ∀ L : Nat, 1 ≤ L → L < 61 → GoodP 8 L
  | 1, _, _ => p_8_1
  | 2, _, _ => p_8_2
  | 3, _, _ => p_8_3
  | 4, _, _ => p_8_4
  | 5, _, _ => p_8_5
  | 6, _, _ => p_8_6
  | 7, _, _ => p_8_7
  | 8, _, _ => p_8_8
  | 9, _, _ => p_8_9
  | 10, _, _ => p_8_10
  | 11, _, _ => p_8_11
  | 12, _, _ => p_8_12
  | 13, _, _ => p_8_13
  | 14, _, _ => p_8_14
  | 15, _, _ => p_8_15
  | 16, _, _ => p_8_16
  | 17, _, _ => p_8_17
  | 18, _, _ => p_8_18
  | 19, _, _ => p_8_19
  | 20, _, _ => p_8_20
  | 21, _, _ => p_8_21
  | 22, _, _ => p_8_22
  | 23, _, _ => p_8_23
  | 24, _, _ => p_8_24
  | 25, _, _ => p_8_25
  | 26, _, _ => p_8_26
  | 27, _, _ => p_8_27
  | 28, _, _ => p_8_28
  | 29, _, _ => p_8_29
  | 30, _, _ => p_8_30
  | 31, _, _ => p_8_31
  | 32, _, _ => p_8_32
  | 33, _, _ => p_8_33
  | 34, _, _ => p_8_34
  | 35, _, _ => p_8_35
  | 36, _, _ => p_8_36
  | 37, _, _ => p_8_37
  | 38, _, _ => p_8_38
  | 39, _, _ => p_8_39
  | 40, _, _ => p_8_40
  | 41, _, _ => p_8_41
  | 42, _, _ => p_8_42
  | 43, _, _ => p_8_43
  | 44, _, _ => p_8_44
  | 45, _, _ => p_8_45
  | 46, _, _ => p_8_46
  | 47, _, _ => p_8_47
  | 48, _, _ => p_8_48
  | 49, _, _ => p_8_49
  | 50, _, _ => p_8_50
  | 51, _, _ => p_8_51
  | 52, _, _ => p_8_52
  | 53, _, _ => p_8_53
  | 54, _, _ => p_8_54
  | 55, _, _ => p_8_55
  | 56, _, _ => p_8_56
  | 57, _, _ => p_8_57
  | 58, _, _ => p_8_58
  | 59, _, _ => p_8_59
  | 60, _, _ => p_8_60
  | 0, h, _ => absurd h (by decide)
  | L + 61, _, h => absurd h (by omega)
theorem c_9 : ∀ L : Nat, 1 ≤ L → L < 61 → GoodC 9 L
  | 1, _, _ => c_9_1
  | 2, _, _ => c_9_2
  | 3, _, _ => c_9_3
  | 4, _, _ => c_9_4
  | 5, _, _ => c_9_5
  | 6, _, _ => c_9_6
  | 7, _, _ => c_9_7
  | 8, _, _ => c_9_8
  | 9, _, _ => c_9_9
  | 10, _, _ => c_9_10
  | 11, _, _ => c_9_11
  | 12, _, _ => c_9_12
  | 13, _, _ => c_9_13
  | 14, _, _ => c_9_14
  | 15, _, _ => c_9_15
  | 16, _, _ => c_9_16
  | 17, _, _ => c_9_17
  | 18, _, _ => c_9_18
  | 19, _, _ => c_9_19
  | 20, _, _ => c_9_20
  | 21, _, _ => c_9_21
  | 22, _, _ => c_9_22
  | 23, _, _ => c_9_23
  | 24, _, _ => c_9_24
  | 25, _, _ => c_9_25
  | 26, _, _ => c_9_26
  | 27, _, _ => c_9_27
  | 28, _, _ => c_9_28
  | 29, _, _ => c_9_29
  | 30, _, _ => c_9_30
  | 31, _, _ => c_9_31
  | 32, _, _ => c_9_32
  | 33, _, _ => c_9_33
  | 34, _, _ => c_9_34
  | 35, _, _ => c_9_35
  | 36, _, _ => c_9_36
  | 37, _, _ => c_9_37
  | 38, _, _ => c_9_38
  | 39, _, _ => c_9_39
  | 40, _, _ => c_9_40
  | 41, _, _ => c_9_41
  | 42, _, _ => c_9_42
  | 43, _, _ => c_9_43
  | 44, _, _ => c_9_44
  | 45, _, _ => c_9_45
  | 46, _, _ => c_9_46
  | 47, _, _ => c_9_47
  | 48, _, _ => c_9_48
  | 49, _, _ => c_9_49
  | 50, _, _ => c_9_50
  | 51, _, _ => c_9_51
  | 52, _, _ => c_9_52
  | 53, _, _ => c_9_53
  | 54, _, _ => c_9_54
  | 55, _, _ => c_9_55
  | 56, _, _ => c_9_56
  | 57, _, _ => c_9_57
  | 58, _, _ => c_9_58
  | 59, _, _ => c_9_59
  | 60, _, _ => c_9_60
  | 0, h, _ => absurd h (by decide)
  | L + 61, _, h => absurd h (by omega)
theorem p_9 : ∀ L : Nat, 1 ≤ L → L < 61 → GoodP 9 L
  | 1, _, _ => p_9_1
  | 2, _, _ => p_9_2
  | 3, _, _ => p_9_3
  | 4, _, _ => p_9_4
  | 5, _, _ => p_9_5
  | 6, _, _ => p_9_6
  | 7, _, _ => p_9_7
  | 8, _, _ => p_9_8
  | 9, _, _ => p_9_9
  | 10, _, _ => p_9_10
  | 11, _, _ => p_9_11
  | 12, _, _ => p_9_12
  | 13, _, _ => p_9_13
  | 14, _, _ => p_9_14
  | 15, _, _ => p_9_15
  | 16, _, _ => p_9_16
  | 17, _, _ => p_9_17
  | 18, _, _ => p_9_18
  | 19, _, _ => p_9_19
  | 20, _, _ => p_9_20
  | 21, _, _ => p_9_21
  | 22, _, _ => p_9_22
  | 23, _, _ => p_9_23
  | 24, _, _ => p_9_24
  | 25, _, _ => p_9_25
  | 26, _, _ => p_9_26
  | 27, _, _ => p_9_27
  | 28, _, _ => p_9_28
  | 29, _, _ => p_9_29
  | 30, _, _ => p_9_30
  | 31, _, _ => p_9_31
  | 32, _, _ => p_9_32
  | 33, _, _ => p_9_33
  | 34, _, _ => p_9_34
  | 35, _, _ => p_9_35
  | 36, _, _ => p_9_36
  | 37, _, _ => p_9_37
  | 38, _, _ => p_9_38
  | 39, _, _ => p_9_39
  | 40, _, _ => p_9_40
  | 41, _, _ => p_9_41
  | 42, _, _ => p_9_42
  | 43, _, _ => p_9_43
  | 44, _, _ => p_9_44
  | 45, _, _ => p_9_45
  | 46, _, _ => p_9_46
  | 47, _, _ => p_9_47
  | 48, _, _ => p_9_48
  | 49, _, _ => p_9_49
  | 50, _, _ => p_9_50
  | 51, _, _ => p_9_51
  | 52, _, _ => p_9_52
  | 53, _, _ => p_9_53
  | 54, _, _ => p_9_54
  | 55, _, _ => p_9_55
  | 56, _, _ => p_9_56
  | 57, _, _ => p_9_57
  | 58, _, _ => p_9_58
  | 59, _, _ => p_9_59
  | 60, _, _ => p_9_60
  | 0, h, _ => absurd h (by decide)
  | L + 61, _, h => absurd h (by omega)
theorem c_10 : ∀ L : Nat, 1 ≤ L → L < 61 → GoodC 10 L
  | 1, _, _ => c_10_1
  | 2, _, _ => c_10_2
  | 3, _, _ => c_10_3
  | 4, _, _ => c_10_4
  | 5, _, _ => c_10_5
  | 6, _, _ => c_10_6
  | 7, _, _ => c_10_7
  | 8, _, _ => c_10_8
  | 9, _, _ => c_10_9
  | 10, _, _ => c_10_10
  | 11, _, _ => c_10_11
  | 12, _, _ => c_10_12
  | 13, _, _ => c_10_13
  | 14, _, _ => c_10_14
  | 15, _, _ => c_10_15
  | 16, _, _ => c_10_16
  | 17, _, _ => c_10_17
  | 18, _, _ => c_10_18
  | 19, _, _ => c_10_19
  | 20, _, _ => c_10_20
  | 21, _, _ => c_10_21
  | 22, _, _ => c_10_22
  | 23, _, _ => c_10_23
  | 24, _, _ => c_10_24
  | 25, _, _ => c_10_25
  | 26, _, _ => c_10_26
  | 27, _, _ => c_10_27
  | 28, _, _ => c_10_28
  | 29, _, _ => c_10_29
  | 30, _, _ => c_10_30
  | 31, _, _ => c_10_31
  | 32, _, _ => c_10_32
  | 33, _, _ => c_10_33
  | 34, _, _ => c_10_34
  | 35, _, _ => c_10_35
  | 36, _, _ => c_10_36
  | 37, _, _ => c_10_37
  | 38, _, _ => c_10_38
  | 39, _, _ => c_10_39
  | 40, _, _ => c_10_40
  | 41, _, _ => c_10_41
  | 42, _, _ => c_10_42
  | 43, _, _ => c_10_43
  | 44, _, _ => c_10_44
  | 45, _, _ => c_10_45
  | 46, _, _ => c_10_46
  | 47, _, _ => c_10_47
  | 48, _, _ => c_10_48
  | 49, _, _ => c_10_49
  | 50, _, _ => c_10_50
  | 51, _, _ => c_10_51
  | 52, _, _ => c_10_52
  | 53, _, _ => c_10_53
  | 54, _, _ => c_10_54
  | 55, _, _ => c_10_55
  | 56, _, _ => c_10_56
  | 57, _, _ => c_10_57
  | 58, _, _ => c_10_58
  | 59, _, _ => c_10_59
  | 60, _, _ => c_10_60
  | 0, h, _ => absurd h (by decide)
  | L + 61, _, h => absurd h (by omega)
theorem p_10 : ∀ L : Nat, 1 ≤ L → L < 61 → GoodP 10 L
  | 1, _, _ => p_10_1
  | 2, _, _ => p_10_2
  | 3, _, _ => p_10_3
  | 4, _, _ => p_10_4
  | 5, _, _ => p_10_5
  | 6, _, _ => p_10_6
  | 7, _, _ => p_10_7
  | 8, _, _ => p_10_8
  | 9, _, _ => p_10_9
  | 10, _, _ => p_10_10
  | 11, _, _ => p_10_11
  | 12, _, _ => p_10_12
  | 13, _, _ => p_10_13
  | 14, _, _ => p_10_14
  | 15, _, _ => p_10_15
  | 16, _, _ => p_10_16
  | 17, _, _ => p_10_17
  | 18, _, _ => p_10_18
  | 19, _, _ => p_10_19
  | 20, _, _ => p_10_20
  | 21, _, _ => p_10_21
  | 22, _, _ => p_10_22
  | 23, _, _ => p_10_23
  | 24, _, _ => p_10_24
  | 25, _, _ => p_10_25
  | 26, _, _ => p_10_26
  | 27, _, _ => p_10_27
  | 28, _, _ => p_10_28
  | 29, _, _ => p_10_29
  | 30, _, _ => p_10_30
  | 31, _, _ => p_10_31
  | 32, _, _ => p_10_32
  | 33, _, _ => p_10_33
  | 34, _, _ => p_10_34
  | 35, _, _ => p_10_35
  | 36, _, _ => p_10_36
  | 37, _, _ => p_10_37
  | 38, _, _ => p_10_38
  | 39, _, _ => p_10_39
  | 40, _, _ => p_10_40
  | 41, _, _ => p_10_41
  | 42, _, _ => p_10_42
  | 43, _, _ => p_10_43
  | 44, _, _ => p_10_44
  | 45, _, _ => p_10_45
  | 46, _, _ => p_10_46
  | 47, _, _ => p_10_47
  | 48, _, _ => p_10_48
  | 49, _, _ => p_10_49
  | 50, _, _ => p_10_50
  | 51, _, _ => p_10_51
  | 52, _, _ => p_10_52
  | 53, _, _ => p_10_53
  | 54, _, _ => p_10_54
  | 55, _, _ => p_10_55
  | 56, _, _ => p_10_56
  | 57, _, _ => p_10_57
  | 58, _, _ => p_10_58
  | 59, _, _ => p_10_59
  | 60, _, _ => p_10_60
  | 0, h, _ => absurd h (by decide)
  | L + 61, _, h => absurd h (by omega)
theorem c_11 : ∀ L : Nat, 1 ≤ L → L < 61 → GoodC 11 L
  | 1, _, _ => c_11_1
  | 2, _, _ => c_11_2
  | 3, _, _ => c_11_3
  | 4, _, _ => c_11_4
  | 5, _, _ => c_11_5
  | 6, _, _ => c_11_6
  | 7, _, _ => c_11_7
  | 8, _, _ => c_11_8
  | 9, _, _ => c_11_9
  | 10, _, _ => c_11_10
  | 11, _, _ => c_11_11
  | 12, _, _ => c_11_12
  | 13, _, _ => c_11_13
  | 14, _, _ => c_11_14
  | 15, _, _ => c_11_15
  | 16, _, _ => c_11_16
  | 17, _, _ => c_11_17
  | 18, _, _ => c_11_18
  | 19, _, _ => c_11_19
  | 20, _, _ => c_11_20
  | 21, _, _ => c_11_21
  | 22, _, _ => c_11_22
  | 23, _, _ => c_11_23
  | 24, _, _ => c_11_24
  | 25, _, _ => c_11_25
  | 26, _, _ => c_11_26
  | 27, _, _ => c_11_27
  | 28, _, _ => c_11_28
  | 29, _, _ => c_11_29
  | 30, _, _ => c_11_30
  | 31, _, _ => c_11_31
  | 32, _, _ => c_11_32
  | 33, _, _ => c_11_33
  | 34, _, _ => c_11_34
  | 35, _, _ => c_11_35
  | 36, _, _ => c_11_36
  | 37, _, _ => c_11_37
  | 38, _, _ => c_11_38
  | 39, _, _ => c_11_39
  | 40, _, _ => c_11_40
  | 41, _, _ => c_11_41
  | 42, _, _ => c_11_42
  | 43, _, _ => c_11_43
  | 44, _, _ => c_11_44
  | 45, _, _ => c_11_45
  | 46, _, _ => c_11_46
  | 47, _, _ => c_11_47
  | 48, _, _ => c_11_48
  | 49, _, _ => c_11_49
  | 50, _, _ => c_11_50
  | 51, _, _ => c_11_51
  | 52, _, _ => c_11_52
  | 53, _, _ => c_11_53
  | 54, _, _ => c_11_54
  | 55, _, _ => c_11_55
  | 56, _, _ => c_11_56
  | 57, _, _ => c_11_57
  | 58, _, _ => c_11_58
  | 59, _, _ => c_11_59
  | 60, _, _ => c_11_60
  | 0, h, _ => absurd h (by decide)
  | L + 61, _, h => absurd h (by omega)
theorem p_11 : ∀ L : Nat, 1 ≤ L → L < 61 → GoodP 11 L
  | 1, _, _ => p_11_1
  | 2, _, _ => p_11_2
  | 3, _, _ => p_11_3
  | 4, _, _ => p_11_4
  | 5, _, _ => p_11_5
  | 6, _, _ => p_11_6
  | 7, _, _ => p_11_7
  | 8, _, _ => p_11_8
  | 9, _, _ => p_11_9
  | 10, _, _ => p_11_10
  | 11, _, _ => p_11_11
  | 12, _, _ => p_11_12
  | 13, _, _ => p_11_13
  | 14, _, _ => p_11_14
  | 15, _, _ => p_11_15
  | 16, _, _ => p_11_16
  | 17, _, _ => p_11_17
  | 18, _, _ => p_11_18
  | 19, _, _ => p_11_19
  | 20, _, _ => p_11_20
  | 21, _, _ => p_11_21
  | 22, _, _ => p_11_22
  | 23, _, _ => p_11_23
  | 24, _, _ => p_11_24
  | 25, _, _ => p_11_25
  | 26, _, _ => p_11_26
  | 27, _, _ => p_11_27
  | 28, _, _ => p_11_28
  | 29, _, _ => p_11_29
  | 30, _, _ => p_11_30
  | 31, _, _ => p_11_31
  | 32, _, _ => p_11_32
  | 33, _, _ => p_11_33
  | 34, _, _ => p_11_34
  | 35, _, _ => p_11_35
  | 36, _, _ => p_11_36
  | 37, _, _ => p_11_37
  | 38, _, _ => p_11_38
  | 39, _, _ => p_11_39
  | 40, _, _ => p_11_40
  | 41, _, _ => p_11_41
  | 42, _, _ => p_11_42
  | 43, _, _ => p_11_43
  | 44, _, _ => p_11_44
  | 45, _, _ => p_11_45
  | 46, _, _ => p_11_46
  | 47, _, _ => p_11_47
  | 48, _, _ => p_11_48
  | 49, _, _ => p_11_49
  | 50, _, _ => p_11_50
  | 51, _, _ => p_11_51
  | 52, _, _ => p_11_52
  | 53, _, _ => p_11_53
  | 54, _, _ => p_11_54
  | 55, _, _ => p_11_55
  | 56, _, _ => p_11_56
  | 57, _, _ => p_11_57
  | 58, _, _ => p_11_58
  | 59, _, _ => p_11_59
  | 60, _, _ => p_11_60
  | 0, h, _ => absurd h (by decide)
  | L + 61, _, h => absurd h (by omega)
theorem c_12 : ∀ L : Nat, 1 ≤ L → L < 61 → GoodC 12 L
  | 1, _, _ => c_12_1
  | 2, _, _ => c_12_2
  | 3, _, _ => c_12_3
  | 4, _, _ => c_12_4
  | 5, _, _ => c_12_5
  | 6, _, _ => c_12_6
  | 7, _, _ => c_12_7
  | 8, _, _ => c_12_8
  | 9, _, _ => c_12_9
  | 10, _, _ => c_12_10
  | 11, _, _ => c_12_11
  | 12, _, _ => c_12_12
  | 13, _, _ => c_12_13
  | 14, _, _ => c_12_14
  | 15, _, _ => c_12_15
  | 16, _, _ => c_12_16
  | 17, _, _ => c_12_17
  | 18, _, _ => c_12_18
  | 19, _, _ => c_12_19
  | 20, _, _ => c_12_20
  | 21, _, _ => c_12_21
  | 22, _, _ => c_12_22
  | 23, _, _ => c_12_23
  | 24, _, _ => c_12_24
  | 25, _, _ => c_12_25
  | 26, _, _ => c_12_26
  | 27, _, _ => c_12_27
  | 28, _, _ => c_12_28
  | 29, _, _ => c_12_29
  | 30, _, _ => c_12_30
  | 31, _, _ => c_12_31
  | 32, _, _ => c_12_32
  | 33, _, _ => c_12_33
  | 34, _, _ => c_12_34
  | 35, _, _ => c_12_35
  | 36, _, _ => c_12_36
  | 37, _, _ => c_12_37
  | 38, _, _ => c_12_38
  | 39, _, _ => c_12_39
  | 40, _, _ => c_12_40
  | 41, _, _ => c_12_41
  | 42, _, _ => c_12_42
  | 43, _, _ => c_12_43
  | 44, _, _ => c_12_44
  | 45, _, _ => c_12_45
  | 46, _, _ => c_12_46
  | 47, _, _ => c_12_47
  | 48, _, _ => c_12_48
  | 49, _, _ => c_12_49
  | 50, _, _ => c_12_50
  | 51, _, _ => c_12_51
  | 52, _, _ => c_12_52
  | 53, _, _ => c_12_53
  | 54, _, _ => c_12_54
  | 55, _, _ => c_12_55
  | 56, _, _ => c_12_56
  | 57, _, _ => c_12_57
  | 58, _, _ => c_12_58
  | 59, _, _ => c_12_59
  | 60, _, _ => c_12_60
  | 0, h, _ => absurd h (by decide)
  | L + 61, _, h => absurd h (by omega)
theorem p_12 : ∀ L : Nat, 1 ≤ L → L < 61 → GoodP 12 L
  | 1, _, _ => p_12_1
  | 2, _, _ => p_12_2
  | 3, _, _ => p_12_3
  | 4, _, _ => p_12_4
  | 5, _, _ => p_12_5
  | 6, _, _ => p_12_6
  | 7, _, _ => p_12_7
  | 8, _, _ => p_12_8
  | 9, _, _ => p_12_9
  | 10, _, _ => p_12_10
  | 11, _, _ => p_12_11
  | 12, _, _ => p_12_12
  | 13, _, _ => p_12_13
  | 14, _, _ => p_12_14
  | 15, _, _ => p_12_15
  | 16, _, _ => p_12_16
  | 17, _, _ => p_12_17
  | 18, _, _ => p_12_18
  | 19, _, _ => p_12_19
  | 20, _, _ => p_12_20
  | 21, _, _ => p_12_21
  | 22, _, _ => p_12_22
  | 23, _, _ => p_12_23
  | 24, _, _ => p_12_24
  | 25, _, _ => p_12_25
  | 26, _, _ => p_12_26
  | 27, _, _ => p_12_27
  | 28, _, _ => p_12_28
  | 29, _, _ => p_12_29
  | 30, _, _ => p_12_30
  | 31, _, _ => p_12_31
  | 32, _, _ => p_12_32
  | 33, _, _ => p_12_33
  | 34, _, _ => p_12_34
  | 35, _, _ => p_12_35
  | 36, _, _ => p_12_36
  | 37, _, _ => p_12_37
  | 38, _, _ => p_12_38
  | 39, _, _ => p_12_39
  | 40, _, _ => p_12_40
  | 41, _, _ => p_12_41
  | 42, _, _ => p_12_42
  | 43, _, _ => p_12_43
  | 44, _, _ => p_12_44
  | 45, _, _ => p_12_45
  | 46, _, _ => p_12_46
  | 47, _, _ => p_12_47
  | 48, _, _ => p_12_48
  | 49, _, _ => p_12_49
  | 50, _, _ => p_12_50
  | 51, _, _ => p_12_51
  | 52, _, _ => p_12_52
  | 53, _, _ => p_12_53
  | 54, _, _ => p_12_54
  | 55, _, _ => p_12_55
  | 56, _, _ => p_12_56
  | 57, _, _ => p_12_57
  | 58, _, _ => p_12_58
  | 59, _, _ => p_12_59
  | 60, _, _ => p_12_60
  | 0, h, _ => absurd h (by decide)
  | L + 61, _, h => absurd h (by omega)
theorem goodC : ∀ i : Nat, i < 13 → ∀ L : Nat, 1 ≤ L → L < 61 → GoodC i L
  | 0, _ => c_0
  | 1, _ => c_1
  | 2, _ => c_2
  | 3, _ => c_3
  | 4, _ => c_4
  | 5, _ => c_5
  | 6, _ => c_6
  | 7, _ => c_7
  | 8, _ => c_8
  | 9, _ => c_9
  | 10, _ => c_10
  | 11, _ => c_11
  | 12, _ => c_12
  | i + 13, h => absurd h (by omega)
theorem goodP : ∀ i : Nat, i < 13 → i ≠ 6 → ∀ L : Nat, 1 ≤ L → L < 61 → GoodP i L
  | 0, _, _ => p_0
  | 1, _, _ => p_1
  | 2, _, _ => p_2
  | 3, _, _ => p_3
  | 4, _, _ => p_4
  | 5, _, _ => p_5
  | 6, _, h => absurd rfl h
  | 7, _, _ => p_7
  | 8, _, _ => p_8
  | 9, _, _ => p_9
  | 10, _, _ => p_10
  | 11, _, _ => p_11
  | 12, _, _ => p_12
  | i + 13, h, _ => absurd h (by omega)
theorem pw_bk : ∀ i : Nat, i < 13 → i ≠ 6 → ∀ L : Nat, L < 61 → 1 ≤ L → pw (bk i) L = (pw i L).reverse := by decide +kernel
theorem ca_bk : ∀ i : Nat, i < 13 → ∀ L : Nat, L < 61 → ca (bk i) L = ca i L := by decide +kernel
def okM (i L : Nat) : Bool := match mir i with
  | some j => decide (pw j L = pw i L) && decide (ca i L + ca j L = 2 ^ L)
  | none => true
theorem mir_all : ∀ i : Nat, i < 13 → ∀ L : Nat, L < 61 → 1 ≤ L → okM i L = true := by decide +kernel
end Rk11
end
section
set_option Elab.async false
set_option linter.all false
set_option maxRecDepth 100000
set_option maxHeartbeats 4000000
open PySem L2 Dl PyProof.Rows
namespace Rk11
theorem turned_all {bs : List Bool} (hl : bs.length ≤ 1000) (s : Tau) : f__law_turned [.str (tx bs)] s = some ((.str (tx (bs.map not)), false), s) := by
  have lc := lc_all (g := gdName 1) (di := dItS (dVar 0)) (de := dIf (dB (dOp eqD (dVar 1) (dC (.str "+")))) (dC (.str "-")) (dC (.str "+"))) (vs := [1]) (ρ := [.im (.str (tx bs)), .un]) (s := s) gD (fun b => gD (!b)) bs ((itS_of rfl).trans (by rw [tx_ch])) (by omega) (fun b _ => ⟨_, rfl, by cases b <;> kernel_rfl⟩)
  have e : (bs.map fun b => gD (!b)) = (bs.map not).map gD := by rw [List.map_map]; rfl
  rw [e] at lc
  exact fn_rt (ret_of (methS_of rfl (one_of lc) (join_g (by rw [List.length_map]; omega))))
theorem rev_row (bs : List Bool) : revD (row bs) = some (row bs.reverse) := by
  show some (D.tup (bs.map vD).reverse) = _
  rw [← List.map_reverse]; rfl
theorem filter_rev (n : Nat) (p : Nat → Bool) : (List.range n).filter (fun j => p (n - 1 - j)) = (((List.range n).filter p).map fun j => n - 1 - j).reverse := by
  have e1 : ((List.range n).map fun k => n - 1 - k).filter (fun j => p (n - 1 - j)) = ((List.range n).filter p).map fun j => n - 1 - j := by
    rw [List.filter_map]
    congr 1
    refine List.filter_congr fun j hj => ?_
    have := List.mem_range.mp hj
    show p (n - 1 - (n - 1 - j)) = p j
    rw [show n - 1 - (n - 1 - j) = j by omega]
  rw [← e1, PySem.W.krv_range, List.filter_reverse, List.reverse_reverse]
theorem mt_bk {i : Nat} (hi : i < 13) {bs : List Bool} (h : bs ≠ []) : mt (bk i) bs.reverse = ((mt i bs).map fun j => bs.length - 1 - j).reverse := by
  unfold mt
  rw [← filter_rev, List.length_reverse]
  refine List.filter_congr fun j hj => ?_
  have hj := List.mem_range.mp hj
  have h2 : fl bs (bs.length - 1 - j) ≠ [] := fl_ne h _
  rw [fl_rev bs j hj, an_rev h2 i hi, an_rev h i hi]
theorem mt_mir {i j : Nat} (e : mir i = some j) {bs : List Bool} (h : bs ≠ []) : mt j (bs.map not) = mt i bs := by
  unfold mt
  rw [List.length_map]
  refine List.filter_congr fun k hk => ?_
  have hk := List.mem_range.mp hk
  rw [fl_not bs k hk, an_mir (fl_ne h k) i j e, an_mir h i j e]
  cases an i (fl bs k) <;> cases an i bs <;> rfl
theorem mir_lt : ∀ i j : Nat, mir i = some j → j < 13 := fun i j e => by
  unfold mir at e
  split at e <;> first | (cases e; decide) | cases e
theorem bk_lt : ∀ i : Nat, i < 13 → bk i < 13 := by decide
theorem mir_ok : ∀ i : Nat, i < 13 → ∀ s : Tau, f__law_mirror [.str (wy i)] s = some (((match mir i with | some j => D.str (wy j) | none => D.non), false), s)
  | 0, _, s | 1, _, s | 2, _, s | 3, _, s | 4, _, s | 5, _, s | 6, _, s | 7, _, s | 8, _, s | 9, _, s | 10, _, s | 11, _, s | 12, _, s => by kernel_rfl
  | n + 13, h, _ => absurd h (by omega)
theorem bk_ok : ∀ i : Nat, i < 13 → ∀ s : Tau, f__law_back [.str (wy i)] s = some ((.str (wy (bk i)), false), s)
  | 0, _, s | 1, _, s | 2, _, s | 3, _, s | 4, _, s | 5, _, s | 6, _, s | 7, _, s | 8, _, s | 9, _, s | 10, _, s | 11, _, s | 12, _, s => by kernel_rfl
  | n + 13, h, _ => absurd h (by omega)
/-- what is held alike -/
def Hold (i j : Nat) : Prop := ∀ (a b c d e f g h k l : Sl) (s : Tau), dLc (dItL (dCall f__law_promises dNil)) (gdName 10) (dB (dOp neD (dCall f_holds (dCons (dVar 8) (dCons (dVar 10) dNil))) (dCall f_holds (dCons (dVar 2) (dCons (dVar 10) dNil))))) (dVar 10) [10] [a, b, .im (.str (wy i)), c, d, e, f, g, .im (.str (wy j)), h, k, l, .un] s = some (.lst [], s)
def Hold7 (i j : Nat) : Prop := ∀ (a b c d e f g h k l m : Sl) (s : Tau), dLc (dItL (dCall f__law_promises dNil)) (gdName 10) (dB (dOp neD (dCall f_holds (dCons (dVar 7) (dCons (dVar 10) dNil))) (dCall f_holds (dCons (dVar 2) (dCons (dVar 10) dNil))))) (dVar 10) [10] [a, b, .im (.str (wy i)), c, d, e, f, .im (.str (wy j)), g, h, k, l, m] s = some (.lst [], s)
theorem hold_bk : ∀ i : Nat, i < 13 → Hold i (bk i)
  | 0, _ | 1, _ | 2, _ | 3, _ | 4, _ | 5, _ | 6, _ | 7, _ | 8, _ | 9, _ | 10, _ | 11, _ | 12, _ => fun a b c d e f g h k l s => by kernel_rfl
  | n + 13, h => absurd h (by omega)
theorem hold_mir : ∀ i j : Nat, mir i = some j → Hold7 i j := fun i j e => by
  unfold mir at e
  split at e <;> first | (cases e; exact fun a b c d e f g h k l m s => by kernel_rfl) | cases e
theorem way6 (s : Tau) : f_need_way [.str (wy 6)] s = some ((.non, false), s) := way_ok 6 (by decide) s
/-- power, of any way -/
def pq (i L : Nat) : List Nat := if i = 6 then (List.range L).map (isP L) else pw i L
theorem power_ok {i : Nat} (hi : i < 13) {L : Nat} (h1 : 1 ≤ L) (h2 : L < 61) (s : Tau) : f_power [.str (wy i), .int (L : Nat)] s = some ((.tup ((pq i L).map fun n => D.int (n : Nat)), false), s) := by
  by_cases e : i = 6
  · subst e
    have hn : f_need_number [.int (L : Nat), .int 1, .int 60] s = some ((.non, false), s) := by
      have hc : dChain leD leD (dVar 1) (dVar 0) (dVar 2) [.im (.int (L : Nat)), .im (.int 1), .im (.int 60)] s = some (.bl true, s) := by
        have := chain_val (f := leD) (g := leD) (da := dVar 1) (db := dVar 0) (dc := dVar 2) (ρ := [.im (.int (L : Nat)), .im (.int 1), .im (.int 60)]) (s := s) (s1 := s) (b := decide ((1 : Int) ≤ (L : Nat))) (c := decide (((L : Nat) : Int) ≤ 60)) rfl rfl rfl rfl rfl
        rw [decide_eq_true (by omega), decide_eq_true (by omega)] at this
        exact this
      have hin : f_is_in [.int (L : Nat), .int 1, .int 60] s = some ((.bl true, false), s) := fn_rt (ret_of (andVT_of (s1 := s) rfl (andVT_of (s1 := s) rfl hc)))
      exact fn_nx (ifF (s1 := s) (Dl.not_of (b := true) (b_of (call_of (cons_of rfl (cons_of rfl (one_of rfl))) hin))) rfl)
    have hp : f_power_of [.str (wy 6), .int (L : Nat)] s = some ((fo L (isP L), false), s) := by
      have hs : dAsg (dOp shlD (dC (.int 1)) (dVar 1)) (gdName 2) [.im (.str (wy 6)), .im (.int (L : Nat)), .un, .un] s = some (.nx [.im (.str (wy 6)), .im (.int (L : Nat)), .im (.int (1 * 2 ^ L)), .un], s) := by
        refine asg_of (op_of rfl rfl ?_)
        show (if decide ((0 : Int) ≤ (L : Nat) ∧ ((L : Nat) : Int) ≤ 1000000 ∧ (1 : Int).natAbs < 2 ^ 64) = true then some (D.int (1 * 2 ^ ((L : Nat) : Int).toNat)) else none) = _
        rw [if_pos (decide_eq_true ⟨by omega, by omega, by decide⟩), Int.toNat_natCast]
      exact fn_rt (sN hs (sF (by kernel_rfl) (sT (by kernel_rfl) (ret_of (call_of (one_of rfl) (island_ok L h1 (by omega) s))))))
    have e2 : pq 6 L = (List.range L).map (isP L) := if_pos rfl
    rw [e2, List.map_map]
    exact fn_rt (sN (drop_of (call_of (one_of rfl) (way6 s))) (sN (drop_of (call_of (cons_of rfl (cons_of rfl (one_of rfl))) hn)) (ret_of (callB_of (one_of (call_of (cons_of rfl (one_of rfl)) hp)) rfl))))
  · have e2 : pq i L = pw i L := if_neg e
    rw [e2]
    exact goodP i hi e L h1 h2 s
theorem pq_bk {i : Nat} (hi : i < 13) {L : Nat} (h1 : 1 ≤ L) (h2 : L < 61) : pq (bk i) L = (pq i L).reverse := by
  by_cases e : i = 6
  · subst e
    show pq 6 L = (pq 6 L).reverse
    have e2 : pq 6 L = (List.range L).map (isP L) := if_pos rfl
    rw [e2, ← List.map_reverse, ← PySem.W.krv_range, List.map_map]
    refine List.map_congr_left fun p hp => ?_
    have hp := List.mem_range.mp hp
    by_cases z : L = 1
    · subst z
      have : p = 0 := by omega
      subst this; rfl
    · exact (isP_sym L p (by omega) hp).symm
  · have e2 : pq i L = pw i L := if_neg e
    have e3 : bk i ≠ 6 := by
      have : ∀ i : Nat, i < 13 → i ≠ 6 → bk i ≠ 6 := by decide
      exact this i hi e
    have e4 : pq (bk i) L = pw (bk i) L := if_neg e3
    rw [e4, e2]
    exact pw_bk i hi e L h2 h1
theorem mir_fact {i j : Nat} (hi : i < 13) (e : mir i = some j) {L : Nat} (h1 : 1 ≤ L) (h2 : L < 61) : pq j L = pq i L ∧ ca i L + ca j L = 2 ^ L := by
  have h := mir_all i hi L h2 h1
  unfold okM at h
  rw [e] at h
  have h := Bool.and_eq_true_iff.mp h
  have n6 : i ≠ 6 ∧ j ≠ 6 := by
    unfold mir at e
    split at e <;> first | (cases e; decide) | cases e
  have e2 : pq i L = pw i L := if_neg n6.1
  have e3 : pq j L = pw j L := if_neg n6.2
  rw [e2, e3]
  exact ⟨of_decide_eq_true h.1, of_decide_eq_true h.2⟩
theorem ne_same {d e : D} {x : PyData} (hx : d.conv = some x) (hy : e.conv = some x) (sx : SeqAt.shaped x = true) : neD d e = some (.bl false) := by
  unfold neD
  rw [eqB_of hx hy sx sx, SeqAt.eqv_refl x (SeqAt.canLay_of_shaped sx)]; rfl
theorem conv_ints (xs : List Int) : (D.tup (xs.map D.int)).conv = some (.tuple (xs.map PyData.int)) := by
  show (convL (xs.map D.int)).map PyData.tuple = _
  rw [convL_map D.int PyData.int fun _ => rfl]; rfl
theorem shaped_intsT (xs : List Int) : SeqAt.shaped (.tuple (xs.map PyData.int)) = true := by
  unfold SeqAt.shaped
  rw [Bool.and_eq_true]
  refine ⟨lay_ints xs, decide_eq_true ?_⟩
  show PyData.depthAll (xs.map PyData.int) + 1 ≤ 64
  rw [depth_ints]; decide
theorem ne_ints (xs : List Int) : neD (.tup (xs.map D.int)) (.tup (xs.map D.int)) = some (.bl false) := ne_same (conv_ints xs) (conv_ints xs) (shaped_intsT xs)
theorem ne_nats (xs : List Nat) : neD (.tup (xs.map fun n => D.int (n : Nat))) (.tup (xs.map fun n => D.int (n : Nat))) = some (.bl false) := by
  have := ne_ints (xs.map fun n : Nat => (n : Int))
  rw [List.map_map] at this
  exact this
theorem ints_nats : ∀ xs : List Nat, intsOf (xs.map fun n => D.int (n : Nat)) = some (xs.map fun n : Nat => (n : Int))
  | [] => rfl
  | x :: xs => by
    show (intsOf (xs.map fun n => D.int (n : Nat))).map (fun bs => ((x : Nat) : Int) :: bs) = _
    rw [ints_nats xs]; rfl
theorem mt_asc (i : Nat) (bs : List Bool) : ((mt i bs).map fun n : Nat => (n : Int)).Pairwise (· ≤ ·) := by
  rw [List.pairwise_map]
  refine List.Pairwise.imp (R := (· < ·)) (fun h => by omega) ?_
  exact List.Pairwise.filter _ List.pairwise_lt_range
theorem mul_two (x : Int) : mulD (.int x) (.int 2) = some (.int (x * 2)) := by
  unfold mulD mulI i2
  have h : decide (-2 ^ 64 < x ∧ x < 2 ^ 64 ∨ -2 ^ 64 < (2 : Int) ∧ (2 : Int) < 2 ^ 64) = true := decide_eq_true (Or.inr (by omega))
  show ((if decide (-2 ^ 64 < x ∧ x < 2 ^ 64 ∨ -2 ^ 64 < (2 : Int) ∧ (2 : Int) < 2 ^ 64) = true then some (D.int (x * 2)) else none).orElse fun _ => repL (.int x) (.int 2)) = _
  rw [if_pos h]; rfl
theorem whole_ok (L : Nat) (hL : L ≤ 60) (a0 a1 a2 a3 a5 a6 a7 a8 a9 a10 z : Sl) (s : Tau) : ∃ z2, dFor (dRng1 (dCons (dVar 4) dNil)) (gdName 12) (dAsg (dOp mulD (dVar 11) (dC (.int 2))) (gdName 11)) [a0, a1, a2, a3, .im (.int (L : Nat)), a5, a6, a7, a8, a9, a10, .im (.int 1), z] s = some (.nx [a0, a1, a2, a3, .im (.int (L : Nat)), a5, a6, a7, a8, a9, a10, .im (.int ((2 ^ L : Nat) : Int)), z2], s) := by
  obtain ⟨ρ2, s2, q1, q2⟩ := for_pre (it := dRng1 (dCons (dVar 4) dNil)) (g := gdName 12) (ρ := [a0, a1, a2, a3, .im (.int (L : Nat)), a5, a6, a7, a8, a9, a10, .im (.int 1), z]) (s := s) (s1 := s) (b := dAsg (dOp mulD (dVar 11) (dC (.int 2))) (gdName 11))
    (fun i : Nat => D.int i) (fun pre ρ t => t = s ∧ ∃ z2, ρ = [a0, a1, a2, a3, .im (.int (L : Nat)), a5, a6, a7, a8, a9, a10, .im (.int ((2 ^ pre.length : Nat) : Int)), z2]) (List.range L) (rng1_of (one_of rfl) (by omega)) ⟨rfl, z, rfl⟩ (fun pre y post e ρ t hj => by
      obtain ⟨rfl, z2, rfl⟩ := hj
      refine ⟨_, _, t, rfl, asg_of (op_of (x := .int ((2 ^ pre.length : Nat) : Int)) (y := .int 2) (z := .int ((2 ^ (pre ++ [y]).length : Nat) : Int)) rfl rfl ?_), rfl, _, rfl⟩
      have e1 : (pre ++ [y]).length = pre.length + 1 := by rw [List.length_append]; rfl
      rw [e1]
      rw [mul_two, Nat.pow_succ, Int.natCast_mul]; rfl)
  obtain ⟨rfl, z2, rfl⟩ := q2
  rw [List.length_range] at q1
  exact ⟨z2, q1⟩
theorem law_pure : ∀ ns : List Int, ns.length ≤ 63 → ∃ s', d_law ((Sl.im (.sl ns) :: List.replicate 12 .un).set 1 (.im .rw)) ⟨0, 15611, 0, ns⟩ = some (.rt (.bl true) false, s') := by
  intro ns _
  obtain ⟨w, s1, q1, q2, q3⟩ := pick_ok ⟨0, 15611, 0, ns⟩ (Int.le_refl 0) (wys.map D.str) (by decide) (by decide)
  obtain ⟨i, hi, rfl⟩ := ways_in w q2
  obtain ⟨bs, s2, q4, h0, hl, q5⟩ := lrow_ok s1 q3
  obtain ⟨d, s3, q6, q7, q8, q9⟩ := taken_ok s2 q5 60 (by decide) (by decide)
  obtain ⟨L, hL⟩ : ∃ L : Nat, 1 + d = (L : Nat) := ⟨(1 + d).toNat, by omega⟩
  have L1 : 1 ≤ L := by omega
  have L2 : L < 61 := by omega
  have r0 : bs.reverse ≠ [] := by simpa using h0
  have t0 : bs.map not ≠ [] := by simpa using h0
  have hb := bk_lt i hi
  refine ⟨s3, ?_⟩
  have a3 : dAsg (dTup (dCons (dCall f__law_pick (dCons (dVar 1) (dCons (dCall f__law_ways dNil) dNil))) (dCons (dCall f__law_row (dCons (dVar 1) (dCons (dC (.int 12)) dNil))) (dCons (dOp addD (dC (.int 1)) (dCall f__law_taken (dCons (dVar 1) (dCons (dC (.int 60)) dNil)))) dNil)))) (gdTup 3 (gdCons (gdName 2) (gdCons (gdName 3) (gdCons (gdName 4) gdNil)))) ((Sl.im (.sl ns) :: List.replicate 12 .un).set 1 (.im .rw)) ⟨0, 15611, 0, ns⟩ =
      some (.nx [.im (.sl ns), .im .rw, .im (.str (wy i)), .im (.str (tx bs)), .im (.int (L : Nat)), .un, .un, .un, .un, .un, .un, .un, .un], s3) := by
    have : dTup (dCons (dCall f__law_pick (dCons (dVar 1) (dCons (dCall f__law_ways dNil) dNil))) (dCons (dCall f__law_row (dCons (dVar 1) (dCons (dC (.int 12)) dNil))) (dCons (dOp addD (dC (.int 1)) (dCall f__law_taken (dCons (dVar 1) (dCons (dC (.int 60)) dNil)))) dNil))) ((Sl.im (.sl ns) :: List.replicate 12 .un).set 1 (.im .rw)) ⟨0, 15611, 0, ns⟩ = some (.tup [.str (wy i), .str (tx bs), .int (L : Nat)], s3) :=
      tup_of (cons_of (call_of (cons_of rfl (one_of (call_of rfl (lways_ok _)))) q1) (cons_of (call_of (cons_of rfl (one_of rfl)) q4) (one_of (op_of rfl (call_of (cons_of rfl (one_of rfl)) q6) (by show some (D.int (1 + d)) = _; rw [hL]))))) (by show 3 ≤ 1000000; decide)
    unfold dAsg
    rw [this]; rfl
  have e1 : an (bk i) bs.reverse = an i bs := an_rev h0 i hi
  refine sN_ a3 ?_
  refine sN (par_of (cons_of (call_of (one_of rfl) (voices_ok (by omega) s3)) (one_of (call_of (one_of (call_of (one_of rfl) (turned_all (by omega) s3))) (voices_ok (by rw [List.length_map]; omega) s3))))) ?_
  refine sN (asg2_of (tup_of (cons_of (call_of (one_of rfl) (mir_ok i hi s3)) (one_of (call_of (one_of rfl) (bk_ok i hi s3)))) (by show 2 ≤ 1000000; decide))) ?_
  have c1 : neD (vD (an (bk i) bs.reverse)) (vD (an i bs)) = some (.bl false) := by rw [e1, ne_v, beq_self_eq_true]; rfl
  have c2 : neD (.tup ((pq (bk i) L).map fun n => D.int (n : Nat))) (.tup ((pq i L).map fun n => D.int (n : Nat)).reverse) = some (.bl false) := by
    rw [pq_bk hi L1 L2, ← List.map_reverse]; exact ne_nats _
  refine sF (orF_of (s1 := s3) (b_of (op_of (call_of (cons_of rfl (one_of (un_of rfl (rev_row bs)))) (answer_ok hb r0 (by rw [List.length_reverse]; exact hl) s3)) (call_of (cons_of rfl (one_of rfl)) (answer_ok hi h0 hl s3)) c1))
    (b_of (op_of (call_of (cons_of rfl (one_of rfl)) (power_ok hb L1 L2 s3)) (un_of (call_of (cons_of rfl (one_of rfl)) (power_ok hi L1 L2 s3)) rfl) c2))) ?_
  have m1 : ∀ (a b c d e f g h k : Sl), dLc (dItT (dCall f_matters (dCons (dVar 2) (dCons (dVar 5) dNil)))) (gdName 9) dYes (dOp subD (dOp subD (dCallB lenD (dCons (dVar 3) dNil)) (dC (.int 1))) (dVar 9)) [9] [.im (.sl ns), .im .rw, .im (.str (wy i)), .im (.str (tx bs)), a, .im (row bs), b, c, d, e, f, g, h] s3 =
      some (.lst (((mt i bs).map fun j => bs.length - 1 - j).map fun n => D.int (n : Nat)), s3) := fun a b c d e f g h k => by
    have lc := lc_all (g := gdName 9) (di := dItT (dCall f_matters (dCons (dVar 2) (dCons (dVar 5) dNil)))) (de := dOp subD (dOp subD (dCallB lenD (dCons (dVar 3) dNil)) (dC (.int 1))) (dVar 9)) (vs := [9]) (ρ := [.im (.sl ns), .im .rw, .im (.str (wy i)), .im (.str (tx bs)), a, .im (row bs), b, c, d, e, f, g, h]) (s := s3)
      (fun j : Nat => D.int j) (fun j => D.int (bs.length - 1 - j : Nat)) (mt i bs) (itT_of (call_of (cons_of rfl (one_of rfl)) (matters_ok hi h0 hl s3)) rfl) (by
        have := List.length_filter_le (fun j => !(an i (fl bs j) == an i bs)) (List.range bs.length)
        rw [List.length_range] at this
        exact Nat.le_trans this (by omega)) (fun j hj => by
          have hj := List.mem_range.mp (List.mem_filter.mp hj).1
          refine ⟨_, rfl, op_of (op_of (callB_of (one_of rfl) (len_tx (by omega))) rfl rfl) rfl ?_⟩
          show some (D.int (((bs.length : Nat) : Int) - 1 - (j : Nat))) = _
          rw [show ((bs.length : Nat) : Int) - 1 - (j : Nat) = ((bs.length - 1 - j : Nat) : Int) by omega])
    rw [lc, List.map_map]; rfl
  have m2 : sortedD [.lst (((mt i bs).map fun j => bs.length - 1 - j).map fun n => D.int (n : Nat))] = some (.lst ((mt (bk i) bs.reverse).map fun n => D.int (n : Nat))) := by
    show (intsOf (((mt i bs).map fun j => bs.length - 1 - j).map fun n => D.int (n : Nat))).map (fun ns => D.lst ((srtI ns).map D.int)) = _
    rw [ints_nats]
    have e2 : srtI (((mt i bs).map fun j => bs.length - 1 - j).map fun n : Nat => (n : Int)) = (mt (bk i) bs.reverse).map fun n : Nat => (n : Int) := by
      refine srt_uniq ?_ (srtI_sorted _) (mt_asc _ _)
      refine (srtI_perm _).trans ?_
      rw [mt_bk hi h0, List.map_reverse]
      exact (List.reverse_perm _).symm
    show some (D.lst ((srtI _).map D.int)) = _
    rw [e2, List.map_map]; rfl
  refine sF (b_of (op_of (call_of (cons_of rfl (one_of (un_of rfl (rev_row bs)))) (matters_ok hb r0 (by rw [List.length_reverse]; exact hl) s3)) (callB_of (one_of (callB_of (one_of (m1 _ _ _ _ _ _ _ _ .un)) m2)) rfl) (ne_nats _))) ?_
  refine sF (orF_of (s1 := s3) (b_of (op_of (call_of (cons_of rfl (one_of rfl)) (goodC _ hb L L1 L2 s3)) (call_of (cons_of rfl (one_of rfl)) (goodC _ hi L L1 L2 s3)) (by rw [ca_bk i hi L L2]; exact ne_int_self _)))
    (b_of (op_of (hold_bk i hi _ _ _ _ _ _ _ _ _ _ s3) rfl rfl))) ?_
  cases em : mir i with
  | none => exact sT rfl (ret_of rfl)
  | some j =>
    have hj := mir_lt i j em
    obtain ⟨f1, f2⟩ := mir_fact hi em L1 L2
    have c3 : eqD (vD (an j (bs.map not))) (vD (an i bs)) = some (.bl false) := by
      rw [an_mir h0 i j em, eq_v]
      cases an i bs <;> rfl
    obtain ⟨z2, wh⟩ := whole_ok L (by omega) (.im (.sl ns)) (.im .rw) (.im (.str (wy i))) (.im (.str (tx bs))) (.im (row bs)) (.im (row (bs.map not))) (.im (.str (wy j))) (.im (.str (wy (bk i)))) .un .un .un s3
    refine sF rfl ?_
    refine sF (orF_of (s1 := s3) (b_of (op_of (call_of (cons_of rfl (one_of rfl)) (answer_ok hj t0 (by rw [List.length_map]; exact hl) s3)) (call_of (cons_of rfl (one_of rfl)) (answer_ok hi h0 hl s3)) c3))
      (orF_of (s1 := s3) (b_of (op_of (call_of (cons_of rfl (one_of rfl)) (matters_ok hj t0 (by rw [List.length_map]; exact hl) s3)) (call_of (cons_of rfl (one_of rfl)) (matters_ok hi h0 hl s3)) (by rw [mt_mir em h0]; exact ne_nats _)))
      (b_of (op_of (call_of (cons_of rfl (one_of rfl)) (power_ok hj L1 L2 s3)) (call_of (cons_of rfl (one_of rfl)) (power_ok hi L1 L2 s3)) (by rw [f1]; exact ne_nats _))))) ?_
    refine sN (asg_of rfl) (sN wh (ret_of (andVT_of (s1 := s3) (op_of (op_of (call_of (cons_of rfl (one_of rfl)) (goodC _ hi L L1 L2 s3)) (call_of (cons_of rfl (one_of rfl)) (goodC _ hj L L1 L2 s3)) rfl) rfl ?_) (op_of (hold_mir i j em _ _ _ _ _ _ _ _ _ _ _ s3) rfl rfl))))
    show some (D.bl (((ca i L : Nat) : Int) + ((ca j L : Nat) : Int) == ((2 ^ L : Nat) : Int))) = _
    rw [← f2, Int.natCast_add, beq_self_eq_true]
end Rk11
end
section
set_option Elab.async false
set_option linter.all false
set_option maxRecDepth 100000
set_option maxHeartbeats 4000000
open PySem PySem.Spec PyProof.Rows L2 Dl
namespace Rk11
def topS (i : Nat) : Stmt := PySem.Challenge.pw_rulevoices_k11_across_mirrors.main.body.getD i (.Pass ⟨0, 0, 0, 0⟩)
abbrev s_is_voice : Stmt := topS 11
abbrev s_is_in : Stmt := topS 12
abbrev s_need_number : Stmt := topS 13
abbrev s_need_row : Stmt := topS 14
abbrev s_turned : Stmt := topS 15
abbrev s_turned_at : Stmt := topS 16
abbrev s_need_way : Stmt := topS 19
abbrev s_joined : Stmt := topS 20
abbrev s_said : Stmt := topS 21
abbrev s_most_of : Stmt := topS 22
abbrev s_answer_of : Stmt := topS 23
abbrev s_need_both : Stmt := topS 24
abbrev s_answer : Stmt := topS 25
abbrev s_matters : Stmt := topS 26
abbrev s_choose : Stmt := topS 29
abbrev s_most_allowed : Stmt := topS 30
abbrev s_allowed : Stmt := topS 31
abbrev s_count_allowed : Stmt := topS 32
abbrev s_most_power : Stmt := topS 33
abbrev s_is_island : Stmt := topS 34
abbrev s_stays : Stmt := topS 35
abbrev s_island_power : Stmt := topS 36
abbrev s_power_of : Stmt := topS 37
abbrev s_power : Stmt := topS 38
abbrev s_need_promise : Stmt := topS 47
abbrev s_holds : Stmt := topS 48
abbrev s__law_taken : Stmt := topS 50
abbrev s__law_pick : Stmt := topS 51
abbrev s__law_ways : Stmt := topS 52
abbrev s__law_promises : Stmt := topS 53
abbrev s__law_turned : Stmt := topS 54
abbrev s__law_row : Stmt := topS 55
abbrev s__law_word : Stmt := topS 56
abbrev s__law_voices : Stmt := topS 57
abbrev s__law_mirror : Stmt := topS 58
abbrev s__law_back : Stmt := topS 59
abbrev s_law : Stmt := topS 60
abbrev FnP (K : PySem.W.Frag) (x : Str) (st : Stmt) (f : Addr) (fd : FuncData) : Prop := FunD K x x (defArgs st) (defBody st) (defScope st) [] [] f fd
structure Tx (K : PySem.W.Frag) (w : World) (mg : Str → Option Value) : Prop where
  f_bool : mg "bool" = none
  f_enumerate : mg "enumerate" = none
  f_int : mg "int" = none
  f_isinstance : mg "isinstance" = none
  f_len : mg "len" = none
  f_max : mg "max" = none
  f_min : mg "min" = none
  f_range : mg "range" = none
  f_sorted : mg "sorted" = none
  f_str : mg "str" = none
  f_tuple : mg "tuple" = none
  c_ALLOW : ∃ t, mg "ALLOW" = some (.str "allow" t)
  c_DENY : ∃ t, mg "DENY" = some (.str "deny" t)
  c_VOICES : mg "VOICES" = some (.ref (He.ga K "VOICES")) ∧ ∀ H, SqT K H (He.ga K "VOICES") (l_VOICES.map V.str)
  c_MOST_ROW : ∃ t, mg "MOST_ROW" = some (.int 12 t)
  c_WAYS : mg "WAYS" = some (.ref (He.ga K "WAYS")) ∧ ∀ H, SqT K H (He.ga K "WAYS") (l_WAYS.map V.str)
  c_MOST_LENGTH : ∃ t, mg "MOST_LENGTH" = some (.int 60 t)
  c_PROMISES : mg "PROMISES" = some (.ref (He.ga K "PROMISES")) ∧ ∀ H, SqT K H (He.ga K "PROMISES") (l_PROMISES.map V.str)
  c_KEPT : mg "KEPT" = some (.ref (He.ga K "KEPT")) ∧ KTab K w (He.ga K "KEPT") l_KEPT
section
variable {P : Program} {w : World} {K : PySem.W.Frag} {mg : Str → Option Value} {base : Heap}
theorem sc_is_voice : FnScope ["value"] ["value"] (defScope s_is_voice) := ⟨rfl, rfl, rfl, by decide +kernel, rfl, by decide +kernel, by decide +kernel⟩
theorem ok_is_voice (T : Tx K w mg) (h : ∃ fd, FnP K "is_voice" s_is_voice (He.ga K "is_voice") fd) (g : mg "is_voice" = some (.ref (He.ga K "is_voice")))  : Cd P w K mg base 2 "is_voice" 1 f_is_voice := by
  obtain ⟨h_VOICES, s_VOICES⟩ := T.c_VOICES
  obtain ⟨fd, F⟩ := h
  have b : Binds K fd ["value"] [] := F.bindsN fun _ _ _ _ _ _ us hl => match us, hl with | [_], _ => rfl
  exact ⟨_, fd, ["value"], rfl, fn_ok (N := ["value"]) (k := 1) F sc_is_voice (dn := d_is_voice) (fun cdv A outer s H E hr => ⟨_, (ess_one (es_ret (ee_and (ee_isi (u := "str") (by decide) (by rfl) T.f_isinstance (by rfl) T.f_str (by decide +kernel) (ee_var 0)) (ee_one (ee_cmp (cm_in hr) (ee_var 0) (ee_glob (v := .ref (He.ga K "VOICES")) (by rfl) h_VOICES rfl (fun _ I => .ktp (s_VOICES I) (RepL.strs _))))))))⟩), g, F.kp, b⟩
theorem sc_is_in : FnScope ["value", "least", "most"] ["value", "least", "most"] (defScope s_is_in) := ⟨rfl, rfl, rfl, by decide +kernel, rfl, by decide +kernel, by decide +kernel⟩
theorem ok_is_in (T : Tx K w mg) (h : ∃ fd, FnP K "is_in" s_is_in (He.ga K "is_in") fd) (g : mg "is_in" = some (.ref (He.ga K "is_in")))  : Cd P w K mg base 2 "is_in" 3 f_is_in := by
  obtain ⟨fd, F⟩ := h
  have b : Binds K fd ["value", "least", "most"] [] := F.bindsN fun _ _ _ _ _ _ us hl => match us, hl with | [_, _, _], _ => rfl
  exact ⟨_, fd, ["value", "least", "most"], rfl, fn_ok (N := ["value", "least", "most"]) (k := 1) F sc_is_in (dn := d_is_in) (fun cdv A outer s H E hr => ⟨_, (ess_one (es_ret (ee_and (ee_isi (u := "int") (by decide) (by rfl) T.f_isinstance (by rfl) T.f_int (by decide +kernel) (ee_var 0)) (ee_and (ee_not (ee_isi (u := "bool") (by decide) (by rfl) T.f_isinstance (by rfl) T.f_bool (by decide +kernel) (ee_var 0))) (ee_one (ee_chain cm_le cm_le (ee_var 1) (ee_var 0) (ee_var 2)))))))⟩), g, F.kp, b⟩
theorem sc_need_number : FnScope ["value", "least", "most"] ["value", "least", "most"] (defScope s_need_number) := ⟨rfl, rfl, rfl, by decide +kernel, rfl, by decide +kernel, by decide +kernel⟩
theorem ok_need_number (T : Tx K w mg) (h : ∃ fd, FnP K "need_number" s_need_number (He.ga K "need_number") fd) (g : mg "need_number" = some (.ref (He.ga K "need_number"))) (C_is_in : Cd P w K mg base 2 "is_in" 3 f_is_in) : Cd P w K mg base 3 "need_number" 3 f_need_number := by
  obtain ⟨fd, F⟩ := h
  have b : Binds K fd ["value", "least", "most"] [] := F.bindsN fun _ _ _ _ _ _ us hl => match us, hl with | [_, _, _], _ => rfl
  exact ⟨_, fd, ["value", "least", "most"], rfl, fn_ok (N := ["value", "least", "most"]) (k := 2) F sc_need_number (dn := d_need_number) (fun cdv A outer s H E hr => ⟨_, (ess_one (es_if (et_not (et_val (ee_call C_is_in hr (by decide) (by rfl) (ea_cons (ee_var 0) (ea_cons (ee_var 1) (ea_cons (ee_var 2) ea_nil))) (len_cons (len_cons (len_cons len_nil)))))) (ess_one es_never) ess_nil))⟩), g, F.kp, b⟩
theorem sc_need_row : FnScope ["value", "index"] ["value"] (defScope s_need_row) := ⟨rfl, rfl, rfl, by decide +kernel, rfl, by decide +kernel, by decide +kernel⟩
theorem ok_need_row (T : Tx K w mg) (h : ∃ fd, FnP K "need_row" s_need_row (He.ga K "need_row") fd) (g : mg "need_row" = some (.ref (He.ga K "need_row"))) (C_is_voice : Cd P w K mg base 2 "is_voice" 1 f_is_voice) : Cd P w K mg base 3 "need_row" 1 f_need_row := by
  obtain ⟨t_MOST_ROW, h_MOST_ROW⟩ := T.c_MOST_ROW
  obtain ⟨fd, F⟩ := h
  have b : Binds K fd ["value"] [] := F.bindsN fun _ _ _ _ _ _ us hl => match us, hl with | [_], _ => rfl
  exact ⟨_, fd, ["value"], rfl, fn_ok (N := ["value", "index"]) (k := 2) F sc_need_row (dn := d_need_row) (fun cdv A outer s H E hr => ⟨_, (ess_cons (es_if (EW.t (ew_or (et_not (et_val (ee_isi (u := "tuple") (by decide) (by rfl) T.f_isinstance (by rfl) T.f_tuple (by decide +kernel) (ee_var 0)))) (ew_or1 (et_not (et_chain cm_le cm_le ee_int (ee_callB call_len sl_len (by rfl) T.f_len (by decide +kernel) (ea_cons (ee_var 0) ea_nil)) (ee_glob (v := .int _) (by rfl) h_MOST_ROW ⟨t_MOST_ROW, rfl⟩ (fun _ _ => .int _))))))) (ess_one es_never) ess_nil)
    (ess_one (es_for PassesOwn.never rfl (ei_rng1 (by rfl) T.f_range (ea_cons (ee_callB call_len sl_len (by rfl) T.f_len (by decide +kernel) (ea_cons (ee_var 0) ea_nil)) ea_nil)) (eg_name (i := 1) sc_need_row.nd rfl (by first | exact .inl rfl | exact .inr rfl)) (ess_one (es_if (et_not (et_val (ee_call C_is_voice hr (by decide) (by rfl) (ea_cons (ee_ix (ee_var 0) (ee_var 1)) ea_nil) (len_cons len_nil)))) (ess_one es_never) ess_nil)))))⟩), g, F.kp, b⟩
theorem sc_turned : FnScope ["voice"] ["voice"] (defScope s_turned) := ⟨rfl, rfl, rfl, by decide +kernel, rfl, by decide +kernel, by decide +kernel⟩
theorem ok_turned (T : Tx K w mg) (h : ∃ fd, FnP K "turned" s_turned (He.ga K "turned") fd) (g : mg "turned" = some (.ref (He.ga K "turned")))  : Cd P w K mg base 2 "turned" 1 f_turned := by
  obtain ⟨t_ALLOW, h_ALLOW⟩ := T.c_ALLOW
  obtain ⟨t_DENY, h_DENY⟩ := T.c_DENY
  obtain ⟨fd, F⟩ := h
  have b : Binds K fd ["voice"] [] := F.bindsN fun _ _ _ _ _ _ us hl => match us, hl with | [_], _ => rfl
  exact ⟨_, fd, ["voice"], rfl, fn_ok (N := ["voice"]) (k := 1) F sc_turned (dn := d_turned) (fun cdv A outer s H E hr => ⟨_, (ess_one (es_ret (ee_if (et_cmp (cm_eq hr) (ee_var 0) (ee_glob (v := .str _) (by rfl) h_ALLOW ⟨t_ALLOW, rfl⟩ (fun _ _ => .str _))) (ee_glob (v := .str _) (by rfl) h_DENY ⟨t_DENY, rfl⟩ (fun _ _ => .str _)) (ee_glob (v := .str _) (by rfl) h_ALLOW ⟨t_ALLOW, rfl⟩ (fun _ _ => .str _)))))⟩), g, F.kp, b⟩
theorem sc_turned_at : FnScope ["row", "place"] ["row", "place"] (defScope s_turned_at) := ⟨rfl, rfl, rfl, by decide +kernel, rfl, by decide +kernel, by decide +kernel⟩
theorem ok_turned_at (T : Tx K w mg) (h : ∃ fd, FnP K "turned_at" s_turned_at (He.ga K "turned_at") fd) (g : mg "turned_at" = some (.ref (He.ga K "turned_at"))) (C_turned : Cd P w K mg base 2 "turned" 1 f_turned) : Cd P w K mg base 3 "turned_at" 2 f_turned_at := by
  obtain ⟨fd, F⟩ := h
  have b : Binds K fd ["row", "place"] [] := F.bindsN fun _ _ _ _ _ _ us hl => match us, hl with | [_, _], _ => rfl
  exact ⟨_, fd, ["row", "place"], rfl, fn_ok (N := ["row", "place"]) (k := 2) F sc_turned_at (dn := d_turned_at) (fun cdv A outer s H E hr => ⟨_, (ess_one (es_ret (ee_tup (ea_star (ee_sl (ee_var 0) eo_none (eo_some (ee_var 1))) (ea_cons (ee_call C_turned hr (by decide) (by rfl) (ea_cons (ee_ix (ee_var 0) (ee_var 1)) ea_nil) (len_cons len_nil)) (ea_star (ee_sl (ee_var 0) (eo_some (ee_add (ee_var 1) ee_int)) eo_none) ea_nil))))))⟩), g, F.kp, b⟩
theorem sc_need_way : FnScope ["way"] ["way"] (defScope s_need_way) := ⟨rfl, rfl, rfl, by decide +kernel, rfl, by decide +kernel, by decide +kernel⟩
theorem ok_need_way (T : Tx K w mg) (h : ∃ fd, FnP K "need_way" s_need_way (He.ga K "need_way") fd) (g : mg "need_way" = some (.ref (He.ga K "need_way")))  : Cd P w K mg base 2 "need_way" 1 f_need_way := by
  obtain ⟨h_WAYS, s_WAYS⟩ := T.c_WAYS
  obtain ⟨fd, F⟩ := h
  have b : Binds K fd ["way"] [] := F.bindsN fun _ _ _ _ _ _ us hl => match us, hl with | [_], _ => rfl
  exact ⟨_, fd, ["way"], rfl, fn_ok (N := ["way"]) (k := 1) F sc_need_way (dn := d_need_way) (fun cdv A outer s H E hr => ⟨_, (ess_one (es_if (EW.t (ew_or (et_not (et_val (ee_isi (u := "str") (by decide) (by rfl) T.f_isinstance (by rfl) T.f_str (by decide +kernel) (ee_var 0)))) (ew_or1 (et_cmp (cm_nin hr) (ee_var 0) (ee_glob (v := .ref (He.ga K "WAYS")) (by rfl) h_WAYS rfl (fun _ I => .ktp (s_WAYS I) (RepL.strs _))))))) (ess_one es_never) ess_nil))⟩), g, F.kp, b⟩
theorem sc_joined : FnScope ["row", "place", "voice"] ["row"] (defScope s_joined) := ⟨rfl, rfl, rfl, by decide +kernel, rfl, by decide +kernel, by decide +kernel⟩
theorem ok_joined (T : Tx K w mg) (h : ∃ fd, FnP K "joined" s_joined (He.ga K "joined") fd) (g : mg "joined" = some (.ref (He.ga K "joined")))  : Cd P w K mg base 2 "joined" 1 f_joined := by
  obtain ⟨fd, F⟩ := h
  have b : Binds K fd ["row"] [] := F.bindsN fun _ _ _ _ _ _ us hl => match us, hl with | [_], _ => rfl
  exact ⟨_, fd, ["row"], rfl, fn_ok (N := ["row", "place", "voice"]) (k := 1) F sc_joined (dn := d_joined) (fun cdv A outer s H E hr => ⟨_, (ess_one (es_ret (ee_callT call_tupF sl_tuple (by rfl) T.f_tuple (by decide +kernel) (ea_cons (ee_lc (own := [("place", 1), ("voice", 2)]) rfl sc_joined.nd (ei_enumT (by rfl) T.f_enumerate (ea_cons (ee_var 0) ea_nil)) (by rfl) (egb_mk fun _ _ _ _ _ => (eg_tup rfl (egs_cons (eg_name (i := 1) sc_joined.nd rfl (by first | exact .inl rfl | exact .inr rfl)) (egs_cons (eg_name (i := 2) sc_joined.nd rfl (by first | exact .inl rfl | exact .inr rfl)) egs_nil)))) (etb_one fun _ _ _ _ _ => (EW.t (ew_or (et_cmp (cm_eq hr) (ee_var 1) ee_int) (ew_or1 (et_cmp (cm_ne hr) (ee_var 2) (ee_ix (ee_var 0) (ee_sub (ee_var 1) ee_int))))))) (eeb_mk fun _ _ _ _ _ => (ee_var 2))) ea_nil))))⟩), g, F.kp, b⟩
theorem sc_said : FnScope ["good"] ["good"] (defScope s_said) := ⟨rfl, rfl, rfl, by decide +kernel, rfl, by decide +kernel, by decide +kernel⟩
theorem ok_said (T : Tx K w mg) (h : ∃ fd, FnP K "said" s_said (He.ga K "said") fd) (g : mg "said" = some (.ref (He.ga K "said")))  : Cd P w K mg base 2 "said" 1 f_said := by
  obtain ⟨t_ALLOW, h_ALLOW⟩ := T.c_ALLOW
  obtain ⟨t_DENY, h_DENY⟩ := T.c_DENY
  obtain ⟨fd, F⟩ := h
  have b : Binds K fd ["good"] [] := F.bindsN fun _ _ _ _ _ _ us hl => match us, hl with | [_], _ => rfl
  exact ⟨_, fd, ["good"], rfl, fn_ok (N := ["good"]) (k := 1) F sc_said (dn := d_said) (fun cdv A outer s H E hr => ⟨_, (ess_one (es_ret (ee_if (et_val (ee_var 0)) (ee_glob (v := .str _) (by rfl) h_ALLOW ⟨t_ALLOW, rfl⟩ (fun _ _ => .str _)) (ee_glob (v := .str _) (by rfl) h_DENY ⟨t_DENY, rfl⟩ (fun _ _ => .str _)))))⟩), g, F.kp, b⟩
theorem sc_most_of : FnScope ["way", "row", "allows", "denies"] ["way", "row"] (defScope s_most_of) := ⟨rfl, rfl, rfl, by decide +kernel, rfl, by decide +kernel, by decide +kernel⟩
theorem ok_most_of (T : Tx K w mg) (h : ∃ fd, FnP K "most_of" s_most_of (He.ga K "most_of") fd) (g : mg "most_of" = some (.ref (He.ga K "most_of"))) (C_said : Cd P w K mg base 2 "said" 1 f_said) : Cd P w K mg base 3 "most_of" 2 f_most_of := by
  obtain ⟨t_ALLOW, h_ALLOW⟩ := T.c_ALLOW
  obtain ⟨t_DENY, h_DENY⟩ := T.c_DENY
  obtain ⟨fd, F⟩ := h
  have b : Binds K fd ["way", "row"] [] := F.bindsN fun _ _ _ _ _ _ us hl => match us, hl with | [_, _], _ => rfl
  exact ⟨_, fd, ["way", "row"], rfl, fn_ok (N := ["way", "row", "allows", "denies"]) (k := 2) F sc_most_of (dn := d_most_of) (fun cdv A outer s H E hr => ⟨_, (ess_cons (es_par (i := 2) (j := 3) rfl sc_most_of.nd rfl rfl (by decide) rfl rfl (ea_cons (ee_tcount (ee_var 1) (ee_glob (v := .str _) (by rfl) h_ALLOW ⟨t_ALLOW, rfl⟩ (fun _ _ => .str _))) (ea_cons (ee_tcount (ee_var 1) (ee_glob (v := .str _) (by rfl) h_DENY ⟨t_DENY, rfl⟩ (fun _ _ => .str _))) ea_nil)))
    (ess_cons (es_if (et_cmp (cm_ne hr) (ee_var 2) (ee_var 3)) (ess_one (es_ret (ee_call C_said hr (by decide) (by rfl) (ea_cons (ee_cmp cm_gt (ee_var 2) (ee_var 3)) ea_nil) (len_cons len_nil)))) ess_nil)
    (ess_cons (es_if (et_cmp (cm_in hr) (ee_var 0) (ee_tup (ea_cons ee_str (ea_cons ee_str ea_nil)))) (ess_one (es_ret (ee_if (et_cmp (cm_eq hr) (ee_var 0) ee_str) (ee_ix (ee_var 1) ee_int) (ee_ix (ee_var 1) (ee_neg ee_int))))) ess_nil)
    (ess_one (es_ret (ee_if (et_cmp (cm_eq hr) (ee_var 0) ee_str) (ee_glob (v := .str _) (by rfl) h_ALLOW ⟨t_ALLOW, rfl⟩ (fun _ _ => .str _)) (ee_glob (v := .str _) (by rfl) h_DENY ⟨t_DENY, rfl⟩ (fun _ _ => .str _))))))))⟩), g, F.kp, b⟩
theorem sc_answer_of : FnScope ["way", "row"] ["way", "row"] (defScope s_answer_of) := ⟨rfl, rfl, rfl, by decide +kernel, rfl, by decide +kernel, by decide +kernel⟩
theorem ok_answer_of (T : Tx K w mg) (h : ∃ fd, FnP K "answer_of" s_answer_of (He.ga K "answer_of") fd) (g : mg "answer_of" = some (.ref (He.ga K "answer_of"))) (C_joined : Cd P w K mg base 2 "joined" 1 f_joined) (C_most_of : Cd P w K mg base 3 "most_of" 2 f_most_of) (C_said : Cd P w K mg base 2 "said" 1 f_said) : Cd P w K mg base 4 "answer_of" 2 f_answer_of := by
  obtain ⟨t_ALLOW, h_ALLOW⟩ := T.c_ALLOW
  obtain ⟨t_DENY, h_DENY⟩ := T.c_DENY
  obtain ⟨fd, F⟩ := h
  have b : Binds K fd ["way", "row"] [] := F.bindsN fun _ _ _ _ _ _ us hl => match us, hl with | [_, _], _ => rfl
  exact ⟨_, fd, ["way", "row"], rfl, fn_ok (N := ["way", "row"]) (k := 3) F sc_answer_of (dn := d_answer_of) (fun cdv A outer s H E hr => ⟨_, (ess_cons (es_if (et_cmp (cm_eq hr) (ee_sl (ee_var 0) eo_none (eo_some ee_int)) ee_str) (ess_one (es_ret (ee_call C_most_of hr (by decide) (by rfl) (ea_cons (ee_var 0) (ea_cons (ee_var 1) ea_nil)) (len_cons (len_cons len_nil))))) ess_nil)
    (ess_cons (es_if (et_cmp (cm_in hr) (ee_var 0) (ee_tup (ea_cons ee_str (ea_cons ee_str ea_nil)))) (ess_one (es_ret (ee_if (et_cmp (cm_eq hr) (ee_var 0) ee_str) (ee_ix (ee_var 1) ee_int) (ee_ix (ee_var 1) (ee_neg ee_int))))) ess_nil)
    (ess_cons (es_if (et_cmp (cm_in hr) (ee_var 0) (ee_tup (ea_cons ee_str (ea_cons ee_str ea_nil)))) (ess_one (es_ret (ee_call C_said hr (by decide) (by rfl) (ea_cons (ee_if (et_cmp (cm_eq hr) (ee_var 0) ee_str) (ee_cmp (cm_in hr) (ee_glob (v := .str _) (by rfl) h_ALLOW ⟨t_ALLOW, rfl⟩ (fun _ _ => .str _)) (ee_var 1)) (ee_cmp (cm_nin hr) (ee_glob (v := .str _) (by rfl) h_DENY ⟨t_DENY, rfl⟩ (fun _ _ => .str _)) (ee_var 1))) ea_nil) (len_cons len_nil)))) ess_nil)
    (ess_cons (es_if (et_cmp (cm_eq hr) (ee_var 0) ee_str) (ess_one (es_ret (ee_call C_said hr (by decide) (by rfl) (ea_cons (ee_cmp (cm_eq hr) (ee_mod (ee_tcount (ee_var 1) (ee_glob (v := .str _) (by rfl) h_DENY ⟨t_DENY, rfl⟩ (fun _ _ => .str _))) ee_int) ee_int) ea_nil) (len_cons len_nil)))) ess_nil)
    (ess_cons (es_if (et_cmp (cm_eq hr) (ee_var 0) ee_str) (ess_one (es_ret (ee_call C_said hr (by decide) (by rfl) (ea_cons (ee_and (ee_cmp (cm_eq hr) (ee_ix (ee_var 1) ee_int) (ee_glob (v := .str _) (by rfl) h_ALLOW ⟨t_ALLOW, rfl⟩ (fun _ _ => .str _))) (ee_one (ee_cmp (cm_eq hr) (ee_ix (ee_var 1) (ee_neg ee_int)) (ee_glob (v := .str _) (by rfl) h_ALLOW ⟨t_ALLOW, rfl⟩ (fun _ _ => .str _))))) ea_nil) (len_cons len_nil)))) ess_nil)
    (ess_cons (es_if (et_cmp (cm_eq hr) (ee_var 0) ee_str) (ess_one (es_ret (ee_call C_said hr (by decide) (by rfl) (ea_cons (ee_cmp (cm_in hr) (ee_call C_joined hr (by decide) (by rfl) (ea_cons (ee_var 1) ea_nil) (len_cons len_nil)) (ee_tup (ea_cons (ee_tup (ea_cons (ee_glob (v := .str _) (by rfl) h_ALLOW ⟨t_ALLOW, rfl⟩ (fun _ _ => .str _)) ea_nil)) (ea_cons (ee_tup (ea_cons (ee_glob (v := .str _) (by rfl) h_DENY ⟨t_DENY, rfl⟩ (fun _ _ => .str _)) (ea_cons (ee_glob (v := .str _) (by rfl) h_ALLOW ⟨t_ALLOW, rfl⟩ (fun _ _ => .str _)) (ea_cons (ee_glob (v := .str _) (by rfl) h_DENY ⟨t_DENY, rfl⟩ (fun _ _ => .str _)) ea_nil)))) ea_nil)))) ea_nil) (len_cons len_nil)))) ess_nil)
    (ess_one (es_ret (ee_call C_said hr (by decide) (by rfl) (ea_cons (ee_cmp (cm_eq hr) (ee_var 0) ee_str) ea_nil) (len_cons len_nil))))))))))⟩), g, F.kp, b⟩
theorem sc_need_both : FnScope ["way", "row"] ["way", "row"] (defScope s_need_both) := ⟨rfl, rfl, rfl, by decide +kernel, rfl, by decide +kernel, by decide +kernel⟩
theorem ok_need_both (T : Tx K w mg) (h : ∃ fd, FnP K "need_both" s_need_both (He.ga K "need_both") fd) (g : mg "need_both" = some (.ref (He.ga K "need_both"))) (C_need_row : Cd P w K mg base 3 "need_row" 1 f_need_row) (C_need_way : Cd P w K mg base 2 "need_way" 1 f_need_way) : Cd P w K mg base 4 "need_both" 2 f_need_both := by
  obtain ⟨fd, F⟩ := h
  have b : Binds K fd ["way", "row"] [] := F.bindsN fun _ _ _ _ _ _ us hl => match us, hl with | [_, _], _ => rfl
  exact ⟨_, fd, ["way", "row"], rfl, fn_ok (N := ["way", "row"]) (k := 3) F sc_need_both (dn := d_need_both) (fun cdv A outer s H E hr => ⟨_, (ess_cons (es_expr (ee_call C_need_way hr (by decide) (by rfl) (ea_cons (ee_var 0) ea_nil) (len_cons len_nil)))
    (ess_one (es_expr (ee_call C_need_row hr (by decide) (by rfl) (ea_cons (ee_var 1) ea_nil) (len_cons len_nil)))))⟩), g, F.kp, b⟩
theorem sc_answer : FnScope ["way", "row"] ["way", "row"] (defScope s_answer) := ⟨rfl, rfl, rfl, by decide +kernel, rfl, by decide +kernel, by decide +kernel⟩
theorem ok_answer (T : Tx K w mg) (h : ∃ fd, FnP K "answer" s_answer (He.ga K "answer") fd) (g : mg "answer" = some (.ref (He.ga K "answer"))) (C_answer_of : Cd P w K mg base 4 "answer_of" 2 f_answer_of) (C_need_both : Cd P w K mg base 4 "need_both" 2 f_need_both) : Cd P w K mg base 5 "answer" 2 f_answer := by
  obtain ⟨fd, F⟩ := h
  have b : Binds K fd ["way", "row"] [] := F.bindsN fun _ _ _ _ _ _ us hl => match us, hl with | [_, _], _ => rfl
  exact ⟨_, fd, ["way", "row"], rfl, fn_ok (N := ["way", "row"]) (k := 4) F sc_answer (dn := d_answer) (fun cdv A outer s H E hr => ⟨_, (ess_cons (es_expr (ee_call C_need_both hr (by decide) (by rfl) (ea_cons (ee_var 0) (ea_cons (ee_var 1) ea_nil)) (len_cons (len_cons len_nil))))
    (ess_one (es_ret (ee_call C_answer_of hr (by decide) (by rfl) (ea_cons (ee_var 0) (ea_cons (ee_var 1) ea_nil)) (len_cons (len_cons len_nil))))))⟩), g, F.kp, b⟩
theorem sc_matters : FnScope ["way", "row", "here", "place"] ["way", "row"] (defScope s_matters) := ⟨rfl, rfl, rfl, by decide +kernel, rfl, by decide +kernel, by decide +kernel⟩
theorem ok_matters (T : Tx K w mg) (h : ∃ fd, FnP K "matters" s_matters (He.ga K "matters") fd) (g : mg "matters" = some (.ref (He.ga K "matters"))) (C_answer_of : Cd P w K mg base 4 "answer_of" 2 f_answer_of) (C_need_both : Cd P w K mg base 4 "need_both" 2 f_need_both) (C_turned_at : Cd P w K mg base 3 "turned_at" 2 f_turned_at) : Cd P w K mg base 5 "matters" 2 f_matters := by
  obtain ⟨fd, F⟩ := h
  have b : Binds K fd ["way", "row"] [] := F.bindsN fun _ _ _ _ _ _ us hl => match us, hl with | [_, _], _ => rfl
  exact ⟨_, fd, ["way", "row"], rfl, fn_ok (N := ["way", "row", "here", "place"]) (k := 4) F sc_matters (dn := d_matters) (fun cdv A outer s H E hr => ⟨_, (ess_cons (es_expr (ee_call C_need_both hr (by decide) (by rfl) (ea_cons (ee_var 0) (ea_cons (ee_var 1) ea_nil)) (len_cons (len_cons len_nil))))
    (ess_cons (es_set (i := 2) sc_matters.nd rfl (.inr rfl) (ee_call C_answer_of hr (by decide) (by rfl) (ea_cons (ee_var 0) (ea_cons (ee_var 1) ea_nil)) (len_cons (len_cons len_nil))))
    (ess_one (es_ret (ee_callT call_tupF sl_tuple (by rfl) T.f_tuple (by decide +kernel) (ea_cons (ee_lc (own := [("place", 3)]) rfl sc_matters.nd (ei_rng1 (by rfl) T.f_range (ea_cons (ee_callB call_len sl_len (by rfl) T.f_len (by decide +kernel) (ea_cons (ee_var 1) ea_nil)) ea_nil)) (by rfl) (egb_mk fun _ _ _ _ _ => (eg_name (i := 3) sc_matters.nd rfl (by first | exact .inl rfl | exact .inr rfl))) (etb_one fun _ _ _ _ _ => (et_cmp (cm_ne hr) (ee_call C_answer_of hr (by decide) (by rfl) (ea_cons (ee_var 0) (ea_cons (ee_call C_turned_at hr (by decide) (by rfl) (ea_cons (ee_var 1) (ea_cons (ee_var 3) ea_nil)) (len_cons (len_cons len_nil))) ea_nil)) (len_cons (len_cons len_nil))) (ee_var 2))) (eeb_mk fun _ _ _ _ _ => (ee_var 3))) ea_nil))))))⟩), g, F.kp, b⟩
theorem sc_choose : FnScope ["many", "some", "found", "at"] ["many", "some"] (defScope s_choose) := ⟨rfl, rfl, rfl, by decide +kernel, rfl, by decide +kernel, by decide +kernel⟩
theorem ok_choose (T : Tx K w mg) (h : ∃ fd, FnP K "choose" s_choose (He.ga K "choose") fd) (g : mg "choose" = some (.ref (He.ga K "choose")))  : Cd P w K mg base 2 "choose" 2 f_choose := by
  obtain ⟨fd, F⟩ := h
  have b : Binds K fd ["many", "some"] [] := F.bindsN fun _ _ _ _ _ _ us hl => match us, hl with | [_, _], _ => rfl
  exact ⟨_, fd, ["many", "some"], rfl, fn_ok (N := ["many", "some", "found", "at"]) (k := 1) F sc_choose (dn := d_choose) (fun cdv A outer s H E hr => ⟨_, (ess_cons (es_if (et_not (et_chain cm_le cm_le ee_int (ee_var 1) (ee_var 0))) (ess_one (es_ret ee_int)) ess_nil)
    (ess_cons (es_set (i := 2) sc_choose.nd rfl (.inl rfl) ee_int)
    (ess_cons (es_for PassesOwn.never rfl (ei_rng1 (by rfl) T.f_range (ea_cons (ee_var 1) ea_nil)) (eg_name (i := 3) sc_choose.nd rfl (by first | exact .inl rfl | exact .inr rfl)) (ess_one (es_set (i := 2) sc_choose.nd rfl (.inl rfl) (ee_fdiv (ee_mul (ee_var 2) (ee_sub (ee_var 0) (ee_var 3))) (ee_add (ee_var 3) ee_int)))))
    (ess_one (es_ret (ee_var 2))))))⟩), g, F.kp, b⟩
theorem sc_most_allowed : FnScope ["way", "length", "half", "ties"] ["way", "length"] (defScope s_most_allowed) := ⟨rfl, rfl, rfl, by decide +kernel, rfl, by decide +kernel, by decide +kernel⟩
theorem ok_most_allowed (T : Tx K w mg) (h : ∃ fd, FnP K "most_allowed" s_most_allowed (He.ga K "most_allowed") fd) (g : mg "most_allowed" = some (.ref (He.ga K "most_allowed"))) (C_choose : Cd P w K mg base 2 "choose" 2 f_choose) : Cd P w K mg base 3 "most_allowed" 2 f_most_allowed := by
  obtain ⟨fd, F⟩ := h
  have b : Binds K fd ["way", "length"] [] := F.bindsN fun _ _ _ _ _ _ us hl => match us, hl with | [_, _], _ => rfl
  exact ⟨_, fd, ["way", "length"], rfl, fn_ok (N := ["way", "length", "half", "ties"]) (k := 2) F sc_most_allowed (dn := d_most_allowed) (fun cdv A outer s H E hr => ⟨_, (ess_cons (es_set (i := 2) sc_most_allowed.nd rfl (.inl rfl) (ee_shl ee_int (ee_sub (ee_var 1) ee_int)))
    (ess_cons (es_if (EW.t (ew_or (et_cmp (cm_eq hr) (ee_mod (ee_var 1) ee_int) ee_int) (ew_or1 (et_cmp (cm_in hr) (ee_var 0) (ee_tup (ea_cons ee_str (ea_cons ee_str ea_nil))))))) (ess_one (es_ret (ee_var 2))) ess_nil)
    (ess_cons (es_set (i := 3) sc_most_allowed.nd rfl (.inl rfl) (ee_fdiv (ee_call C_choose hr (by decide) (by rfl) (ea_cons (ee_var 1) (ea_cons (ee_fdiv (ee_var 1) ee_int) ea_nil)) (len_cons (len_cons len_nil))) ee_int))
    (ess_one (es_ret (ee_if (et_cmp (cm_eq hr) (ee_var 0) ee_str) (ee_add (ee_var 2) (ee_var 3)) (ee_sub (ee_var 2) (ee_var 3))))))))⟩), g, F.kp, b⟩
theorem sc_allowed : FnScope ["way", "length", "whole"] ["way", "length"] (defScope s_allowed) := ⟨rfl, rfl, rfl, by decide +kernel, rfl, by decide +kernel, by decide +kernel⟩
theorem ok_allowed (T : Tx K w mg) (h : ∃ fd, FnP K "allowed" s_allowed (He.ga K "allowed") fd) (g : mg "allowed" = some (.ref (He.ga K "allowed"))) (C_choose : Cd P w K mg base 2 "choose" 2 f_choose) (C_most_allowed : Cd P w K mg base 3 "most_allowed" 2 f_most_allowed) : Cd P w K mg base 4 "allowed" 2 f_allowed := by
  obtain ⟨fd, F⟩ := h
  have b : Binds K fd ["way", "length"] [] := F.bindsN fun _ _ _ _ _ _ us hl => match us, hl with | [_, _], _ => rfl
  exact ⟨_, fd, ["way", "length"], rfl, fn_ok (N := ["way", "length", "whole"]) (k := 3) F sc_allowed (dn := d_allowed) (fun cdv A outer s H E hr => ⟨_, (ess_cons (es_set (i := 2) sc_allowed.nd rfl (.inl rfl) (ee_shl ee_int (ee_var 1)))
    (ess_cons (es_if (et_cmp (cm_eq hr) (ee_sl (ee_var 0) eo_none (eo_some ee_int)) ee_str) (ess_one (es_ret (ee_call C_most_allowed hr (by decide) (by rfl) (ea_cons (ee_var 0) (ea_cons (ee_var 1) ea_nil)) (len_cons (len_cons len_nil))))) ess_nil)
    (ess_cons (es_if (et_cmp (cm_in hr) (ee_var 0) (ee_tup (ea_cons ee_str (ea_cons ee_str (ea_cons ee_str ea_nil))))) (ess_one (es_ret (ee_fdiv (ee_var 2) ee_int))) ess_nil)
    (ess_cons (es_if (et_cmp (cm_eq hr) (ee_var 0) ee_str) (ess_one (es_ret (ee_callB (call_max2 rfl) sl_max (by rfl) T.f_max (by decide +kernel) (ea_cons ee_int (ea_cons (ee_fdiv (ee_var 2) ee_int) ea_nil))))) ess_nil)
    (ess_cons (es_if (et_cmp (cm_eq hr) (ee_var 0) ee_str) (ess_one (es_ret (ee_add ee_int (ee_call C_choose hr (by decide) (by rfl) (ea_cons (ee_sub (ee_var 1) ee_int) (ea_cons ee_int ea_nil)) (len_cons (len_cons len_nil)))))) ess_nil)
    (ess_one (es_ret (ee_dget hr (ee_disp (ep_cons ee_str (ee_sub (ee_var 2) ee_int) (ep_cons ee_str (ee_var 2) (ep_cons ee_str ee_int (ep_cons ee_str ee_int ep_nil))))) (ee_var 0)))))))))⟩), g, F.kp, b⟩
theorem sc_count_allowed : FnScope ["way", "length"] ["way", "length"] (defScope s_count_allowed) := ⟨rfl, rfl, rfl, by decide +kernel, rfl, by decide +kernel, by decide +kernel⟩
theorem ok_count_allowed (T : Tx K w mg) (h : ∃ fd, FnP K "count_allowed" s_count_allowed (He.ga K "count_allowed") fd) (g : mg "count_allowed" = some (.ref (He.ga K "count_allowed"))) (C_allowed : Cd P w K mg base 4 "allowed" 2 f_allowed) (C_need_number : Cd P w K mg base 3 "need_number" 3 f_need_number) (C_need_way : Cd P w K mg base 2 "need_way" 1 f_need_way) : Cd P w K mg base 5 "count_allowed" 2 f_count_allowed := by
  obtain ⟨t_MOST_LENGTH, h_MOST_LENGTH⟩ := T.c_MOST_LENGTH
  obtain ⟨fd, F⟩ := h
  have b : Binds K fd ["way", "length"] [] := F.bindsN fun _ _ _ _ _ _ us hl => match us, hl with | [_, _], _ => rfl
  exact ⟨_, fd, ["way", "length"], rfl, fn_ok (N := ["way", "length"]) (k := 4) F sc_count_allowed (dn := d_count_allowed) (fun cdv A outer s H E hr => ⟨_, (ess_cons (es_expr (ee_call C_need_way hr (by decide) (by rfl) (ea_cons (ee_var 0) ea_nil) (len_cons len_nil)))
    (ess_cons (es_expr (ee_call C_need_number hr (by decide) (by rfl) (ea_cons (ee_var 1) (ea_cons ee_int (ea_cons (ee_glob (v := .int _) (by rfl) h_MOST_LENGTH ⟨t_MOST_LENGTH, rfl⟩ (fun _ _ => .int _)) ea_nil))) (len_cons (len_cons (len_cons len_nil)))))
    (ess_one (es_ret (ee_call C_allowed hr (by decide) (by rfl) (ea_cons (ee_var 0) (ea_cons (ee_var 1) ea_nil)) (len_cons (len_cons len_nil)))))))⟩), g, F.kp, b⟩
theorem sc_most_power : FnScope ["way", "length", "half", "rest", "strong"] ["way", "length"] (defScope s_most_power) := ⟨rfl, rfl, rfl, by decide +kernel, rfl, by decide +kernel, by decide +kernel⟩
theorem ok_most_power (T : Tx K w mg) (h : ∃ fd, FnP K "most_power" s_most_power (He.ga K "most_power") fd) (g : mg "most_power" = some (.ref (He.ga K "most_power"))) (C_choose : Cd P w K mg base 2 "choose" 2 f_choose) : Cd P w K mg base 3 "most_power" 2 f_most_power := by
  obtain ⟨fd, F⟩ := h
  have b : Binds K fd ["way", "length"] [] := F.bindsN fun _ _ _ _ _ _ us hl => match us, hl with | [_, _], _ => rfl
  exact ⟨_, fd, ["way", "length"], rfl, fn_ok (N := ["way", "length", "half", "rest", "strong"]) (k := 2) F sc_most_power (dn := d_most_power) (fun cdv A outer s H E hr => ⟨_, (ess_cons (es_set (i := 2) sc_most_power.nd rfl (.inl rfl) (ee_fdiv (ee_var 1) ee_int))
    (ess_cons (es_if (et_cmp (cm_eq hr) (ee_mod (ee_var 1) ee_int) ee_int) (ess_one (es_ret (ee_mul (ee_lst (ea_cons (ee_mul ee_int (ee_call C_choose hr (by decide) (by rfl) (ea_cons (ee_sub (ee_var 1) ee_int) (ea_cons (ee_var 2) ea_nil)) (len_cons (len_cons len_nil)))) ea_nil)) (ee_var 1)))) ess_nil)
    (ess_cons (es_if (et_cmp (cm_in hr) (ee_var 0) (ee_tup (ea_cons ee_str (ea_cons ee_str ea_nil)))) (ess_one (es_ret (ee_mul (ee_lst (ea_cons (ee_mul ee_int (ee_call C_choose hr (by decide) (by rfl) (ea_cons (ee_sub (ee_var 1) ee_int) (ea_cons (ee_var 2) ea_nil)) (len_cons (len_cons len_nil)))) ea_nil)) (ee_var 1)))) ess_nil)
    (ess_cons (es_set (i := 3) sc_most_power.nd rfl (.inl rfl) (ee_mul ee_int (ee_add (ee_call C_choose hr (by decide) (by rfl) (ea_cons (ee_sub (ee_var 1) ee_int) (ea_cons (ee_sub (ee_var 2) ee_int) ea_nil)) (len_cons (len_cons len_nil))) (ee_call C_choose hr (by decide) (by rfl) (ea_cons (ee_sub (ee_var 1) ee_int) (ea_cons (ee_var 2) ea_nil)) (len_cons (len_cons len_nil))))))
    (ess_cons (es_set (i := 4) sc_most_power.nd rfl (.inl rfl) (ee_mul ee_int (ee_call C_choose hr (by decide) (by rfl) (ea_cons (ee_var 1) (ea_cons (ee_var 2) ea_nil)) (len_cons (len_cons len_nil)))))
    (ess_one (es_ret (ee_if (et_cmp (cm_eq hr) (ee_var 0) ee_str) (ee_add (ee_lst (ea_cons (ee_var 4) ea_nil)) (ee_mul (ee_lst (ea_cons (ee_var 3) ea_nil)) (ee_sub (ee_var 1) ee_int))) (ee_add (ee_mul (ee_lst (ea_cons (ee_var 3) ea_nil)) (ee_sub (ee_var 1) ee_int)) (ee_lst (ea_cons (ee_var 4) ea_nil)))))))))))⟩), g, F.kp, b⟩
theorem sc_is_island : FnScope ["left", "right", "length"] ["left", "right", "length"] (defScope s_is_island) := ⟨rfl, rfl, rfl, by decide +kernel, rfl, by decide +kernel, by decide +kernel⟩
theorem ok_is_island (T : Tx K w mg) (h : ∃ fd, FnP K "is_island" s_is_island (He.ga K "is_island") fd) (g : mg "is_island" = some (.ref (He.ga K "is_island")))  : Cd P w K mg base 2 "is_island" 3 f_is_island := by
  obtain ⟨fd, F⟩ := h
  have b : Binds K fd ["left", "right", "length"] [] := F.bindsN fun _ _ _ _ _ _ us hl => match us, hl with | [_, _, _], _ => rfl
  exact ⟨_, fd, ["left", "right", "length"], rfl, fn_ok (N := ["left", "right", "length"]) (k := 1) F sc_is_island (dn := d_is_island) (fun cdv A outer s H E hr => ⟨_, (ess_one (es_ret (ee_chain3 cm_le cm_le cm_le ee_int (ee_var 0) (ee_var 1) (ee_sub (ee_var 2) ee_int))))⟩), g, F.kp, b⟩
theorem sc_stays : FnScope ["left", "right", "place", "length"] ["left", "right", "place", "length"] (defScope s_stays) := ⟨rfl, rfl, rfl, by decide +kernel, rfl, by decide +kernel, by decide +kernel⟩
theorem ok_stays (T : Tx K w mg) (h : ∃ fd, FnP K "stays" s_stays (He.ga K "stays") fd) (g : mg "stays" = some (.ref (He.ga K "stays"))) (C_is_island : Cd P w K mg base 2 "is_island" 3 f_is_island) : Cd P w K mg base 3 "stays" 4 f_stays := by
  obtain ⟨fd, F⟩ := h
  have b : Binds K fd ["left", "right", "place", "length"] [] := F.bindsN fun _ _ _ _ _ _ us hl => match us, hl with | [_, _, _, _], _ => rfl
  exact ⟨_, fd, ["left", "right", "place", "length"], rfl, fn_ok (N := ["left", "right", "place", "length"]) (k := 2) F sc_stays (dn := d_stays) (fun cdv A outer s H E hr => ⟨_, (ess_cons (es_if (EW.t (ew_or (et_cmp (cm_eq hr) (ee_var 2) (ee_sub (ee_var 0) ee_int)) (ew_or1 (et_cmp (cm_eq hr) (ee_var 2) (ee_add (ee_var 1) ee_int))))) (ess_one (es_ret (ee_call C_is_island hr (by decide) (by rfl) (ea_cons (ee_callB (call_min2 rfl) sl_min (by rfl) T.f_min (by decide +kernel) (ea_cons (ee_var 0) (ea_cons (ee_var 2) ea_nil))) (ea_cons (ee_callB (call_max2 rfl) sl_max (by rfl) T.f_max (by decide +kernel) (ea_cons (ee_var 1) (ea_cons (ee_var 2) ea_nil))) (ea_cons (ee_var 3) ea_nil))) (len_cons (len_cons (len_cons len_nil)))))) ess_nil)
    (ess_cons (es_if (EW.t (ew_and (et_cmp cm_lt (ee_var 0) (ee_var 1)) (ew_and1 (et_cmp (cm_in hr) (ee_var 2) (ee_tup (ea_cons (ee_var 0) (ea_cons (ee_var 1) ea_nil))))))) (ess_one (es_ret ee_bl)) ess_nil)
    (ess_one (es_ret ee_bl))))⟩), g, F.kp, b⟩
theorem sc_island_power : FnScope ["length", "found", "left", "right", "at", "many"] ["length"] (defScope s_island_power) := ⟨rfl, rfl, rfl, by decide +kernel, rfl, by decide +kernel, by decide +kernel⟩
theorem ok_island_power (T : Tx K w mg) (h : ∃ fd, FnP K "island_power" s_island_power (He.ga K "island_power") fd) (g : mg "island_power" = some (.ref (He.ga K "island_power"))) (C_stays : Cd P w K mg base 3 "stays" 4 f_stays) : Cd P w K mg base 4 "island_power" 1 f_island_power := by
  obtain ⟨fd, F⟩ := h
  have b : Binds K fd ["length"] [] := F.bindsN fun _ _ _ _ _ _ us hl => match us, hl with | [_], _ => rfl
  exact ⟨_, fd, ["length"], rfl, fn_ok (N := ["length", "found", "left", "right", "at", "many"]) (k := 3) F sc_island_power (dn := d_island_power) (fun cdv A outer s H E hr => ⟨_, (ess_cons (es_set (i := 1) sc_island_power.nd rfl (.inl rfl) (ee_mul (ee_lst (ea_cons ee_int ea_nil)) (ee_var 0)))
    (ess_cons (es_for PassesOwn.never rfl (ei_rng2 (by rfl) T.f_range (ea_cons ee_int (ea_cons (ee_sub (ee_var 0) ee_int) ea_nil))) (eg_name (i := 2) sc_island_power.nd rfl (by first | exact .inl rfl | exact .inr rfl)) (ess_one (es_for PassesOwn.never rfl (ei_rng2 (by rfl) T.f_range (ea_cons (ee_var 2) (ea_cons (ee_sub (ee_var 0) ee_int) ea_nil))) (eg_name (i := 3) sc_island_power.nd rfl (by first | exact .inl rfl | exact .inr rfl)) (ess_one (es_lc (i := 1) (own := [("at", 4), ("many", 5)]) rfl sc_island_power.nd rfl rfl (sw_true rfl rfl rfl (by decide +kernel)) (ei_enumL (by rfl) T.f_enumerate (ea_cons (ee_var 1) ea_nil)) (by rfl) (egb_mk fun _ _ _ _ _ => (eg_tup rfl (egs_cons (eg_name (i := 4) sc_island_power.nd rfl (by first | exact .inl rfl | exact .inr rfl)) (egs_cons (eg_name (i := 5) sc_island_power.nd rfl (by first | exact .inl rfl | exact .inr rfl)) egs_nil)))) etb_nil (eeb_mk fun _ _ _ _ _ => (ee_add (ee_var 5) (ee_if (et_val (ee_call C_stays hr (by decide) (by rfl) (ea_cons (ee_var 2) (ea_cons (ee_var 3) (ea_cons (ee_var 4) (ea_cons (ee_var 0) ea_nil)))) (len_cons (len_cons (len_cons (len_cons len_nil)))))) ee_int ee_int))))))))
    (ess_one (es_ret (ee_var 1)))))⟩), g, F.kp, b⟩
theorem sc_power_of : FnScope ["way", "length", "whole", "rest"] ["way", "length"] (defScope s_power_of) := ⟨rfl, rfl, rfl, by decide +kernel, rfl, by decide +kernel, by decide +kernel⟩
theorem ok_power_of (T : Tx K w mg) (h : ∃ fd, FnP K "power_of" s_power_of (He.ga K "power_of") fd) (g : mg "power_of" = some (.ref (He.ga K "power_of"))) (C_island_power : Cd P w K mg base 4 "island_power" 1 f_island_power) (C_most_power : Cd P w K mg base 3 "most_power" 2 f_most_power) : Cd P w K mg base 5 "power_of" 2 f_power_of := by
  obtain ⟨fd, F⟩ := h
  have b : Binds K fd ["way", "length"] [] := F.bindsN fun _ _ _ _ _ _ us hl => match us, hl with | [_, _], _ => rfl
  exact ⟨_, fd, ["way", "length"], rfl, fn_ok (N := ["way", "length", "whole", "rest"]) (k := 4) F sc_power_of (dn := d_power_of) (fun cdv A outer s H E hr => ⟨_, (ess_cons (es_set (i := 2) sc_power_of.nd rfl (.inl rfl) (ee_shl ee_int (ee_var 1)))
    (ess_cons (es_if (et_cmp (cm_eq hr) (ee_sl (ee_var 0) eo_none (eo_some ee_int)) ee_str) (ess_one (es_ret (ee_call C_most_power hr (by decide) (by rfl) (ea_cons (ee_var 0) (ea_cons (ee_var 1) ea_nil)) (len_cons (len_cons len_nil))))) ess_nil)
    (ess_cons (es_if (et_cmp (cm_eq hr) (ee_var 0) ee_str) (ess_one (es_ret (ee_call C_island_power hr (by decide) (by rfl) (ea_cons (ee_var 1) ea_nil) (len_cons len_nil)))) ess_nil)
    (ess_cons (es_if (et_cmp (cm_eq hr) (ee_var 0) ee_str) (ess_one (es_ret (ee_if (et_cmp (cm_eq hr) (ee_var 1) ee_int) (ee_lst (ea_cons (ee_var 2) ea_nil)) (ee_add (ee_add (ee_lst (ea_cons (ee_fdiv (ee_var 2) ee_int) ea_nil)) (ee_mul (ee_lst (ea_cons ee_int ea_nil)) (ee_sub (ee_var 1) ee_int))) (ee_lst (ea_cons (ee_fdiv (ee_var 2) ee_int) ea_nil)))))) ess_nil)
    (ess_cons (es_if (et_cmp (cm_in hr) (ee_var 0) (ee_tup (ea_cons ee_str (ea_cons ee_str ea_nil)))) (ess_cons (es_set (i := 3) sc_power_of.nd rfl (.inl rfl) (ee_mul (ee_lst (ea_cons ee_int ea_nil)) (ee_sub (ee_var 1) ee_int)))
    (ess_one (es_ret (ee_if (et_cmp (cm_eq hr) (ee_var 0) ee_str) (ee_add (ee_lst (ea_cons (ee_var 2) ea_nil)) (ee_var 3)) (ee_add (ee_var 3) (ee_lst (ea_cons (ee_var 2) ea_nil))))))) ess_nil)
    (ess_one (es_ret (ee_mul (ee_lst (ea_cons (ee_dget2 hr (ee_disp (ep_cons ee_str ee_int (ep_cons ee_str ee_int (ep_cons ee_str (ee_var 2) ep_nil)))) (ee_var 0) ee_int) ea_nil)) (ee_var 1)))))))))⟩), g, F.kp, b⟩
theorem sc_power : FnScope ["way", "length"] ["way", "length"] (defScope s_power) := ⟨rfl, rfl, rfl, by decide +kernel, rfl, by decide +kernel, by decide +kernel⟩
theorem ok_power (T : Tx K w mg) (h : ∃ fd, FnP K "power" s_power (He.ga K "power") fd) (g : mg "power" = some (.ref (He.ga K "power"))) (C_need_number : Cd P w K mg base 3 "need_number" 3 f_need_number) (C_need_way : Cd P w K mg base 2 "need_way" 1 f_need_way) (C_power_of : Cd P w K mg base 5 "power_of" 2 f_power_of) : Cd P w K mg base 6 "power" 2 f_power := by
  obtain ⟨t_MOST_LENGTH, h_MOST_LENGTH⟩ := T.c_MOST_LENGTH
  obtain ⟨fd, F⟩ := h
  have b : Binds K fd ["way", "length"] [] := F.bindsN fun _ _ _ _ _ _ us hl => match us, hl with | [_, _], _ => rfl
  exact ⟨_, fd, ["way", "length"], rfl, fn_ok (N := ["way", "length"]) (k := 5) F sc_power (dn := d_power) (fun cdv A outer s H E hr => ⟨_, (ess_cons (es_expr (ee_call C_need_way hr (by decide) (by rfl) (ea_cons (ee_var 0) ea_nil) (len_cons len_nil)))
    (ess_cons (es_expr (ee_call C_need_number hr (by decide) (by rfl) (ea_cons (ee_var 1) (ea_cons ee_int (ea_cons (ee_glob (v := .int _) (by rfl) h_MOST_LENGTH ⟨t_MOST_LENGTH, rfl⟩ (fun _ _ => .int _)) ea_nil))) (len_cons (len_cons (len_cons len_nil)))))
    (ess_one (es_ret (ee_callT call_tupF sl_tuple (by rfl) T.f_tuple (by decide +kernel) (ea_cons (ee_call C_power_of hr (by decide) (by rfl) (ea_cons (ee_var 0) (ea_cons (ee_var 1) ea_nil)) (len_cons (len_cons len_nil))) ea_nil))))))⟩), g, F.kp, b⟩
theorem sc_need_promise : FnScope ["promise"] ["promise"] (defScope s_need_promise) := ⟨rfl, rfl, rfl, by decide +kernel, rfl, by decide +kernel, by decide +kernel⟩
theorem ok_need_promise (T : Tx K w mg) (h : ∃ fd, FnP K "need_promise" s_need_promise (He.ga K "need_promise") fd) (g : mg "need_promise" = some (.ref (He.ga K "need_promise")))  : Cd P w K mg base 2 "need_promise" 1 f_need_promise := by
  obtain ⟨h_PROMISES, s_PROMISES⟩ := T.c_PROMISES
  obtain ⟨fd, F⟩ := h
  have b : Binds K fd ["promise"] [] := F.bindsN fun _ _ _ _ _ _ us hl => match us, hl with | [_], _ => rfl
  exact ⟨_, fd, ["promise"], rfl, fn_ok (N := ["promise"]) (k := 1) F sc_need_promise (dn := d_need_promise) (fun cdv A outer s H E hr => ⟨_, (ess_one (es_if (EW.t (ew_or (et_not (et_val (ee_isi (u := "str") (by decide) (by rfl) T.f_isinstance (by rfl) T.f_str (by decide +kernel) (ee_var 0)))) (ew_or1 (et_cmp (cm_nin hr) (ee_var 0) (ee_glob (v := .ref (He.ga K "PROMISES")) (by rfl) h_PROMISES rfl (fun _ I => .ktp (s_PROMISES I) (RepL.strs _))))))) (ess_one es_never) ess_nil))⟩), g, F.kp, b⟩
theorem sc_holds : FnScope ["way", "promise"] ["way", "promise"] (defScope s_holds) := ⟨rfl, rfl, rfl, by decide +kernel, rfl, by decide +kernel, by decide +kernel⟩
theorem ok_holds (T : Tx K w mg) (h : ∃ fd, FnP K "holds" s_holds (He.ga K "holds") fd) (g : mg "holds" = some (.ref (He.ga K "holds"))) (C_need_promise : Cd P w K mg base 2 "need_promise" 1 f_need_promise) (C_need_way : Cd P w K mg base 2 "need_way" 1 f_need_way) : Cd P w K mg base 3 "holds" 2 f_holds := by
  obtain ⟨h_KEPT, s_KEPT⟩ := T.c_KEPT
  obtain ⟨fd, F⟩ := h
  have b : Binds K fd ["way", "promise"] [] := F.bindsN fun _ _ _ _ _ _ us hl => match us, hl with | [_, _], _ => rfl
  exact ⟨_, fd, ["way", "promise"], rfl, fn_ok (N := ["way", "promise"]) (k := 2) F sc_holds (dn := d_holds) (fun cdv A outer s H E hr => ⟨_, (ess_cons (es_expr (ee_call C_need_way hr (by decide) (by rfl) (ea_cons (ee_var 0) ea_nil) (len_cons len_nil)))
    (ess_cons (es_expr (ee_call C_need_promise hr (by decide) (by rfl) (ea_cons (ee_var 1) ea_nil) (len_cons len_nil)))
    (ess_one (es_ret (ee_cmp (cm_in hr) (ee_var 1) (ee_kget (by rfl) h_KEPT s_KEPT (ee_var 0)))))))⟩), g, F.kp, b⟩
theorem sc__law_taken : FnScope ["_law_row_here", "_law_many", "_law_found", "_law_cell"] ["_law_row_here", "_law_many"] (defScope s__law_taken) := ⟨rfl, rfl, rfl, by decide +kernel, rfl, by decide +kernel, by decide +kernel⟩
theorem ok__law_taken (T : Tx K w mg) (h : ∃ fd, FnP K "_law_taken" s__law_taken (He.ga K "_law_taken") fd) (g : mg "_law_taken" = some (.ref (He.ga K "_law_taken")))  : Cd P w K mg base 2 "_law_taken" 2 f__law_taken := by
  obtain ⟨fd, F⟩ := h
  have b : Binds K fd ["_law_row_here", "_law_many"] [] := F.bindsN fun _ _ _ _ _ _ us hl => match us, hl with | [_, _], _ => rfl
  exact ⟨_, fd, ["_law_row_here", "_law_many"], rfl, fn_ok (N := ["_law_row_here", "_law_many", "_law_found", "_law_cell"]) (k := 1) F sc__law_taken (dn := d__law_taken) (fun cdv A outer s H E hr => ⟨_, (ess_cons (es_if (et_cmp cm_gt (ee_rw (i := 0) (j := 3)) ee_int) (ess_cons (es_set (i := 2) sc__law_taken.nd rfl (.inl rfl) (ee_mod (ee_callT call_int1 sl_int (by rfl) T.f_int (by decide +kernel) (ea_cons (ee_rw (i := 0) (j := 3)) ea_nil)) (ee_var 1)))
    (ess_cons (es_rw (i := 0) (j := 3) (ee_fdiv (ee_rw (i := 0) (j := 3)) (ee_var 1)))
    (ess_one (es_ret (ee_var 2))))) ess_nil)
    (ess_cons (es_rw (i := 0) (j := 1) (ee_add (ee_rw (i := 0) (j := 1)) ee_int))
    (ess_cons (es_if (et_cmp cm_gt (ee_rw (i := 0) (j := 1)) (ee_callB call_len sl_len (by rfl) T.f_len (by decide +kernel) (ea_cons (ee_rw (i := 0) (j := 0)) ea_nil))) (ess_cons (es_rw (i := 0) (j := 2) (ee_mod (ee_callT call_int1 sl_int (by rfl) T.f_int (by decide +kernel) (ea_cons (ee_add (ee_mul (ee_rw (i := 0) (j := 2)) ee_int) ee_int) ea_nil)) ee_int))
    (ess_one (es_ret (ee_mod (ee_callT call_int1 sl_int (by rfl) T.f_int (by decide +kernel) (ea_cons (ee_fdiv (ee_rw (i := 0) (j := 2)) ee_int) ea_nil)) (ee_var 1))))) ess_nil)
    (ess_cons (es_set (i := 3) sc__law_taken.nd rfl (.inl rfl) (ee_ix (ee_rw (i := 0) (j := 0)) (ee_sub (ee_rw (i := 0) (j := 1)) ee_int)))
    (ess_cons (es_rw (i := 0) (j := 2) (ee_mod (ee_callT call_int1 sl_int (by rfl) T.f_int (by decide +kernel) (ea_cons (ee_add (ee_add (ee_mul (ee_rw (i := 0) (j := 2)) ee_int) (ee_var 3)) ee_int) ea_nil)) ee_int))
    (ess_cons (es_if (et_cmp cm_ge (ee_var 3) (ee_pow ee_int ee_int)) (ess_one (es_rw (i := 0) (j := 3) (ee_fdiv (ee_var 3) (ee_var 1)))) ess_nil)
    (ess_one (es_ret (ee_mod (ee_callT call_int1 sl_int (by rfl) T.f_int (by decide +kernel) (ea_cons (ee_var 3) ea_nil)) (ee_var 1))))))))))⟩), g, F.kp, b⟩
theorem sc__law_pick : FnScope ["_law_row_here", "_law_kinds"] ["_law_row_here", "_law_kinds"] (defScope s__law_pick) := ⟨rfl, rfl, rfl, by decide +kernel, rfl, by decide +kernel, by decide +kernel⟩
theorem ok__law_pick (T : Tx K w mg) (h : ∃ fd, FnP K "_law_pick" s__law_pick (He.ga K "_law_pick") fd) (g : mg "_law_pick" = some (.ref (He.ga K "_law_pick"))) (C__law_taken : Cd P w K mg base 2 "_law_taken" 2 f__law_taken) : Cd P w K mg base 3 "_law_pick" 2 f__law_pick := by
  obtain ⟨fd, F⟩ := h
  have b : Binds K fd ["_law_row_here", "_law_kinds"] [] := F.bindsN fun _ _ _ _ _ _ us hl => match us, hl with | [_, _], _ => rfl
  exact ⟨_, fd, ["_law_row_here", "_law_kinds"], rfl, fn_ok (N := ["_law_row_here", "_law_kinds"]) (k := 2) F sc__law_pick (dn := d__law_pick) (fun cdv A outer s H E hr => ⟨_, (ess_one (es_ret (ee_ix (ee_var 1) (ee_call C__law_taken hr (by decide) (by rfl) (ea_cons (ee_var 0) (ea_cons (ee_callB call_len sl_len (by rfl) T.f_len (by decide +kernel) (ea_cons (ee_var 1) ea_nil)) ea_nil)) (len_cons (len_cons len_nil))))))⟩), g, F.kp, b⟩
theorem sc__law_ways : FnScope [] [] (defScope s__law_ways) := ⟨rfl, rfl, rfl, by decide +kernel, rfl, by decide +kernel, by decide +kernel⟩
theorem ok__law_ways (T : Tx K w mg) (h : ∃ fd, FnP K "_law_ways" s__law_ways (He.ga K "_law_ways") fd) (g : mg "_law_ways" = some (.ref (He.ga K "_law_ways")))  : Cd P w K mg base 2 "_law_ways" 0 f__law_ways := by
  obtain ⟨fd, F⟩ := h
  have b : Binds K fd [] [] := F.bindsN fun _ _ _ _ _ _ us hl => match us, hl with | [], _ => rfl
  exact ⟨_, fd, [], rfl, fn_ok (N := []) (k := 1) F sc__law_ways (dn := d__law_ways) (fun cdv A outer s H E hr => ⟨_, (ess_one (es_ret (ee_lst (ea_cons ee_str (ea_cons ee_str (ea_cons ee_str (ea_cons ee_str (ea_cons ee_str (ea_cons ee_str (ea_cons ee_str (ea_cons ee_str (ea_cons ee_str (ea_cons ee_str (ea_cons ee_str (ea_cons ee_str (ea_cons ee_str ea_nil))))))))))))))))⟩), g, F.kp, b⟩
theorem sc__law_promises : FnScope [] [] (defScope s__law_promises) := ⟨rfl, rfl, rfl, by decide +kernel, rfl, by decide +kernel, by decide +kernel⟩
theorem ok__law_promises (T : Tx K w mg) (h : ∃ fd, FnP K "_law_promises" s__law_promises (He.ga K "_law_promises") fd) (g : mg "_law_promises" = some (.ref (He.ga K "_law_promises")))  : Cd P w K mg base 2 "_law_promises" 0 f__law_promises := by
  obtain ⟨fd, F⟩ := h
  have b : Binds K fd [] [] := F.bindsN fun _ _ _ _ _ _ us hl => match us, hl with | [], _ => rfl
  exact ⟨_, fd, [], rfl, fn_ok (N := []) (k := 1) F sc__law_promises (dn := d__law_promises) (fun cdv A outer s H E hr => ⟨_, (ess_one (es_ret (ee_lst (ea_cons ee_str (ea_cons ee_str (ea_cons ee_str (ea_cons ee_str (ea_cons ee_str (ea_cons ee_str (ea_cons ee_str (ea_cons ee_str (ea_cons ee_str (ea_cons ee_str ea_nil)))))))))))))⟩), g, F.kp, b⟩
theorem sc__law_turned : FnScope ["_law_text", "_law_sign"] ["_law_text"] (defScope s__law_turned) := ⟨rfl, rfl, rfl, by decide +kernel, rfl, by decide +kernel, by decide +kernel⟩
theorem ok__law_turned (T : Tx K w mg) (h : ∃ fd, FnP K "_law_turned" s__law_turned (He.ga K "_law_turned") fd) (g : mg "_law_turned" = some (.ref (He.ga K "_law_turned")))  : Cd P w K mg base 2 "_law_turned" 1 f__law_turned := by
  obtain ⟨fd, F⟩ := h
  have b : Binds K fd ["_law_text"] [] := F.bindsN fun _ _ _ _ _ _ us hl => match us, hl with | [_], _ => rfl
  exact ⟨_, fd, ["_law_text"], rfl, fn_ok (N := ["_law_text", "_law_sign"]) (k := 1) F sc__law_turned (dn := d__law_turned) (fun cdv A outer s H E hr => ⟨_, (ess_one (es_ret (ee_bmS PySem.F.slot_str_join PySem.F.type_str_join mt_join sm_join ee_str (ea_cons (ee_lc (own := [("_law_sign", 1)]) rfl sc__law_turned.nd (ei_str (ee_var 0)) (by rfl) (egb_mk fun _ _ _ _ _ => (eg_name (i := 1) sc__law_turned.nd rfl (by first | exact .inl rfl | exact .inr rfl))) etb_nil (eeb_mk fun _ _ _ _ _ => (ee_if (et_cmp (cm_eq hr) (ee_var 1) ee_str) ee_str ee_str))) ea_nil))))⟩), g, F.kp, b⟩
theorem sc__law_row : FnScope ["_law_row_here", "_law_most", "_law_turn"] ["_law_row_here", "_law_most"] (defScope s__law_row) := ⟨rfl, rfl, rfl, by decide +kernel, rfl, by decide +kernel, by decide +kernel⟩
theorem ok__law_row (T : Tx K w mg) (h : ∃ fd, FnP K "_law_row" s__law_row (He.ga K "_law_row") fd) (g : mg "_law_row" = some (.ref (He.ga K "_law_row"))) (C__law_pick : Cd P w K mg base 3 "_law_pick" 2 f__law_pick) (C__law_taken : Cd P w K mg base 2 "_law_taken" 2 f__law_taken) : Cd P w K mg base 4 "_law_row" 2 f__law_row := by
  obtain ⟨fd, F⟩ := h
  have b : Binds K fd ["_law_row_here", "_law_most"] [] := F.bindsN fun _ _ _ _ _ _ us hl => match us, hl with | [_, _], _ => rfl
  exact ⟨_, fd, ["_law_row_here", "_law_most"], rfl, fn_ok (N := ["_law_row_here", "_law_most", "_law_turn"]) (k := 3) F sc__law_row (dn := d__law_row) (fun cdv A outer s H E hr => ⟨_, (ess_one (es_ret (ee_bmS PySem.F.slot_str_join PySem.F.type_str_join mt_join sm_join ee_str (ea_cons (ee_lc (own := [("_law_turn", 2)]) rfl sc__law_row.nd (ei_rng1 (by rfl) T.f_range (ea_cons (ee_add ee_int (ee_call C__law_taken hr (by decide) (by rfl) (ea_cons (ee_var 0) (ea_cons (ee_var 1) ea_nil)) (len_cons (len_cons len_nil)))) ea_nil)) (by rfl) (egb_mk fun _ _ _ _ _ => (eg_name (i := 2) sc__law_row.nd rfl (by first | exact .inl rfl | exact .inr rfl))) etb_nil (eeb_mk fun _ _ _ _ _ => (ee_call C__law_pick hr (by decide) (by rfl) (ea_cons (ee_var 0) (ea_cons (ee_lst (ea_cons ee_str (ea_cons ee_str ea_nil))) ea_nil)) (len_cons (len_cons len_nil))))) ea_nil))))⟩), g, F.kp, b⟩
theorem sc__law_word : FnScope ["_law_sign"] ["_law_sign"] (defScope s__law_word) := ⟨rfl, rfl, rfl, by decide +kernel, rfl, by decide +kernel, by decide +kernel⟩
theorem ok__law_word (T : Tx K w mg) (h : ∃ fd, FnP K "_law_word" s__law_word (He.ga K "_law_word") fd) (g : mg "_law_word" = some (.ref (He.ga K "_law_word")))  : Cd P w K mg base 2 "_law_word" 1 f__law_word := by
  obtain ⟨fd, F⟩ := h
  have b : Binds K fd ["_law_sign"] [] := F.bindsN fun _ _ _ _ _ _ us hl => match us, hl with | [_], _ => rfl
  exact ⟨_, fd, ["_law_sign"], rfl, fn_ok (N := ["_law_sign"]) (k := 1) F sc__law_word (dn := d__law_word) (fun cdv A outer s H E hr => ⟨_, (ess_one (es_ret (ee_dget hr (ee_disp (ep_cons ee_str ee_str (ep_cons ee_str ee_str ep_nil))) (ee_var 0))))⟩), g, F.kp, b⟩
theorem sc__law_voices : FnScope ["_law_text", "_law_sign"] ["_law_text"] (defScope s__law_voices) := ⟨rfl, rfl, rfl, by decide +kernel, rfl, by decide +kernel, by decide +kernel⟩
theorem ok__law_voices (T : Tx K w mg) (h : ∃ fd, FnP K "_law_voices" s__law_voices (He.ga K "_law_voices") fd) (g : mg "_law_voices" = some (.ref (He.ga K "_law_voices"))) (C__law_word : Cd P w K mg base 2 "_law_word" 1 f__law_word) : Cd P w K mg base 3 "_law_voices" 1 f__law_voices := by
  obtain ⟨fd, F⟩ := h
  have b : Binds K fd ["_law_text"] [] := F.bindsN fun _ _ _ _ _ _ us hl => match us, hl with | [_], _ => rfl
  exact ⟨_, fd, ["_law_text"], rfl, fn_ok (N := ["_law_text", "_law_sign"]) (k := 2) F sc__law_voices (dn := d__law_voices) (fun cdv A outer s H E hr => ⟨_, (ess_one (es_ret (ee_callT call_tupF sl_tuple (by rfl) T.f_tuple (by decide +kernel) (ea_cons (ee_lc (own := [("_law_sign", 1)]) rfl sc__law_voices.nd (ei_str (ee_var 0)) (by rfl) (egb_mk fun _ _ _ _ _ => (eg_name (i := 1) sc__law_voices.nd rfl (by first | exact .inl rfl | exact .inr rfl))) etb_nil (eeb_mk fun _ _ _ _ _ => (ee_call C__law_word hr (by decide) (by rfl) (ea_cons (ee_var 1) ea_nil) (len_cons len_nil)))) ea_nil))))⟩), g, F.kp, b⟩
theorem sc__law_mirror : FnScope ["_law_way", "_law_words"] ["_law_way"] (defScope s__law_mirror) := ⟨rfl, rfl, rfl, by decide +kernel, rfl, by decide +kernel, by decide +kernel⟩
theorem ok__law_mirror (T : Tx K w mg) (h : ∃ fd, FnP K "_law_mirror" s__law_mirror (He.ga K "_law_mirror") fd) (g : mg "_law_mirror" = some (.ref (He.ga K "_law_mirror")))  : Cd P w K mg base 2 "_law_mirror" 1 f__law_mirror := by
  obtain ⟨fd, F⟩ := h
  have b : Binds K fd ["_law_way"] [] := F.bindsN fun _ _ _ _ _ _ us hl => match us, hl with | [_], _ => rfl
  exact ⟨_, fd, ["_law_way"], rfl, fn_ok (N := ["_law_way", "_law_words"]) (k := 1) F sc__law_mirror (dn := d__law_mirror) (fun cdv A outer s H E hr => ⟨_, (ess_cons (es_if (et_cmp (cm_in hr) (ee_var 0) (ee_lst (ea_cons ee_str (ea_cons ee_str (ea_cons ee_str (ea_cons ee_str ea_nil)))))) (ess_one (es_ret (ee_var 0))) ess_nil)
    (ess_cons (es_own (i := 1) sc__law_mirror.nd rfl (.inl rfl) (ef_disp (ep_cons ee_str ee_str (ep_cons ee_str ee_str (ep_cons ee_str ee_str (ep_cons ee_str ee_str ep_nil))))))
    (ess_cons (es_dput2 1 hr rfl (ee_var 1) (ee_var 1) (ee_tup (ea_cons ee_str (ea_cons ee_str ea_nil))))
    (ess_frz 1 (ess_one (es_ret (ee_dget1 hr (ee_var 1) (ee_var 0))))))))⟩), g, F.kp, b⟩
theorem sc__law_back : FnScope ["_law_way", "_law_words"] ["_law_way"] (defScope s__law_back) := ⟨rfl, rfl, rfl, by decide +kernel, rfl, by decide +kernel, by decide +kernel⟩
theorem ok__law_back (T : Tx K w mg) (h : ∃ fd, FnP K "_law_back" s__law_back (He.ga K "_law_back") fd) (g : mg "_law_back" = some (.ref (He.ga K "_law_back")))  : Cd P w K mg base 2 "_law_back" 1 f__law_back := by
  obtain ⟨fd, F⟩ := h
  have b : Binds K fd ["_law_way"] [] := F.bindsN fun _ _ _ _ _ _ us hl => match us, hl with | [_], _ => rfl
  exact ⟨_, fd, ["_law_way"], rfl, fn_ok (N := ["_law_way", "_law_words"]) (k := 1) F sc__law_back (dn := d__law_back) (fun cdv A outer s H E hr => ⟨_, (ess_cons (es_set (i := 1) sc__law_back.nd rfl (.inl rfl) (ee_disp (ep_cons ee_str ee_str (ep_cons ee_str ee_str (ep_cons ee_str ee_str (ep_cons ee_str ee_str ep_nil))))))
    (ess_one (es_ret (ee_dget2 hr (ee_var 1) (ee_var 0) (ee_var 0)))))⟩), g, F.kp, b⟩
theorem sc_law : FnScope ["_law_script", "_law_row_here", "_law_way", "_law_text", "_law_length", "_law_voices_here", "_law_turned_here", "_law_other", "_law_back_here", "_law_at", "_law_one", "_law_whole", "_law_turn"] ["_law_script"] (defScope s_law) := ⟨rfl, rfl, rfl, by decide +kernel, rfl, by decide +kernel, by decide +kernel⟩
theorem ok_law (T : Tx K w mg) {fd : FuncData} (F : FnP K "law" s_law (He.ga K "law") fd) (C__law_back : Cd P w K mg base 2 "_law_back" 1 f__law_back) (C__law_mirror : Cd P w K mg base 2 "_law_mirror" 1 f__law_mirror) (C__law_pick : Cd P w K mg base 3 "_law_pick" 2 f__law_pick) (C__law_promises : Cd P w K mg base 2 "_law_promises" 0 f__law_promises) (C__law_row : Cd P w K mg base 4 "_law_row" 2 f__law_row) (C__law_taken : Cd P w K mg base 2 "_law_taken" 2 f__law_taken) (C__law_turned : Cd P w K mg base 2 "_law_turned" 1 f__law_turned) (C__law_voices : Cd P w K mg base 3 "_law_voices" 1 f__law_voices) (C__law_ways : Cd P w K mg base 2 "_law_ways" 0 f__law_ways) (C_answer : Cd P w K mg base 5 "answer" 2 f_answer) (C_count_allowed : Cd P w K mg base 5 "count_allowed" 2 f_count_allowed) (C_holds : Cd P w K mg base 3 "holds" 2 f_holds) (C_matters : Cd P w K mg base 5 "matters" 2 f_matters) (C_power : Cd P w K mg base 6 "power" 2 f_power)
    (hd : ∀ ns : List Int, ns.length ≤ 63 → ∃ s', d_law ((Sl.im (.sl ns) :: List.replicate 12 .un).set 1 (.im .rw)) ⟨0, 15611, 0, ns⟩ = some (.rt (.bl true) false, s')) :
    FnOk P w K mg base CX0 7 (He.ga K "law") fd ["_law_script"] (spLaw K) := by
  refine law_ok (N := ["_law_script", "_law_row_here", "_law_way", "_law_text", "_law_length", "_law_voices_here", "_law_turned_here", "_law_other", "_law_back_here", "_law_at", "_law_one", "_law_whole", "_law_turn"]) (k := 6) (i := 1) (b0 := 15611) (dn := d_law) F sc_law (st0 := (defBody s_law).headD (.Pass ⟨0, 0, 0, 0⟩)) (rest := (defBody s_law).tail) rfl (fun cdv A outer s H E hr => ⟨ps_set (i := 1) sc_law.nd rfl (.inl rfl) (pe_lst (pa_cons (pv 0) (pa_cons pe_int (pa_cons pe_int (pa_cons pe_int pa_nil))))), ⟨_, (ess_cons (es_asg (ee_tup (ea_cons (ee_call C__law_pick hr (by decide) (by rfl) (ea_cons (ee_var 1) (ea_cons (ee_call0 C__law_ways hr (by decide) (by rfl)) ea_nil)) (len_cons (len_cons len_nil))) (ea_cons (ee_call C__law_row hr (by decide) (by rfl) (ea_cons (ee_var 1) (ea_cons ee_int ea_nil)) (len_cons (len_cons len_nil))) (ea_cons (ee_add ee_int (ee_call C__law_taken hr (by decide) (by rfl) (ea_cons (ee_var 1) (ea_cons ee_int ea_nil)) (len_cons (len_cons len_nil)))) ea_nil)))) (eg_tup rfl (egs_cons (eg_name (i := 2) sc_law.nd rfl (by first | exact .inl rfl | exact .inr rfl)) (egs_cons (eg_name (i := 3) sc_law.nd rfl (by first | exact .inl rfl | exact .inr rfl)) (egs_cons (eg_name (i := 4) sc_law.nd rfl (by first | exact .inl rfl | exact .inr rfl)) egs_nil)))))
    (ess_cons (es_par (i := 5) (j := 6) rfl sc_law.nd rfl rfl (by decide) rfl rfl (ea_cons (ee_call C__law_voices hr (by decide) (by rfl) (ea_cons (ee_var 3) ea_nil) (len_cons len_nil)) (ea_cons (ee_call C__law_voices hr (by decide) (by rfl) (ea_cons (ee_call C__law_turned hr (by decide) (by rfl) (ea_cons (ee_var 3) ea_nil) (len_cons len_nil)) ea_nil) (len_cons len_nil)) ea_nil)))
    (ess_cons (es_asg (ee_tup (ea_cons (ee_call C__law_mirror hr (by decide) (by rfl) (ea_cons (ee_var 2) ea_nil) (len_cons len_nil)) (ea_cons (ee_call C__law_back hr (by decide) (by rfl) (ea_cons (ee_var 2) ea_nil) (len_cons len_nil)) ea_nil))) (eg_tup rfl (egs_cons (eg_name (i := 7) sc_law.nd rfl (by first | exact .inl rfl | exact .inr rfl)) (egs_cons (eg_name (i := 8) sc_law.nd rfl (by first | exact .inl rfl | exact .inr rfl)) egs_nil))))
    (ess_cons (es_if (EW.t (ew_or (et_cmp (cm_ne hr) (ee_call C_answer hr (by decide) (by rfl) (ea_cons (ee_var 8) (ea_cons (ee_rev (ee_var 5)) ea_nil)) (len_cons (len_cons len_nil))) (ee_call C_answer hr (by decide) (by rfl) (ea_cons (ee_var 2) (ea_cons (ee_var 5) ea_nil)) (len_cons (len_cons len_nil)))) (ew_or1 (et_cmp (cm_ne hr) (ee_call C_power hr (by decide) (by rfl) (ea_cons (ee_var 8) (ea_cons (ee_var 4) ea_nil)) (len_cons (len_cons len_nil))) (ee_rev (ee_call C_power hr (by decide) (by rfl) (ea_cons (ee_var 2) (ea_cons (ee_var 4) ea_nil)) (len_cons (len_cons len_nil)))))))) (ess_one (es_ret ee_bl)) ess_nil)
    (ess_cons (es_if (et_cmp (cm_ne hr) (ee_call C_matters hr (by decide) (by rfl) (ea_cons (ee_var 8) (ea_cons (ee_rev (ee_var 5)) ea_nil)) (len_cons (len_cons len_nil))) (ee_callT call_tupF sl_tuple (by rfl) T.f_tuple (by decide +kernel) (ea_cons (ee_callB cr_sortedI sl_sorted (by rfl) T.f_sorted (by decide +kernel) (ea_cons (ee_lc (own := [("_law_at", 9)]) rfl sc_law.nd (ei_tup (ee_call C_matters hr (by decide) (by rfl) (ea_cons (ee_var 2) (ea_cons (ee_var 5) ea_nil)) (len_cons (len_cons len_nil)))) (by rfl) (egb_mk fun _ _ _ _ _ => (eg_name (i := 9) sc_law.nd rfl (by first | exact .inl rfl | exact .inr rfl))) etb_nil (eeb_mk fun _ _ _ _ _ => (ee_sub (ee_sub (ee_callB call_len sl_len (by rfl) T.f_len (by decide +kernel) (ea_cons (ee_var 3) ea_nil)) ee_int) (ee_var 9)))) ea_nil)) ea_nil))) (ess_one (es_ret ee_bl)) ess_nil)
    (ess_cons (es_if (EW.t (ew_or (et_cmp (cm_ne hr) (ee_call C_count_allowed hr (by decide) (by rfl) (ea_cons (ee_var 8) (ea_cons (ee_var 4) ea_nil)) (len_cons (len_cons len_nil))) (ee_call C_count_allowed hr (by decide) (by rfl) (ea_cons (ee_var 2) (ea_cons (ee_var 4) ea_nil)) (len_cons (len_cons len_nil)))) (ew_or1 (et_cmp (cm_ne hr) (ee_lc (own := [("_law_one", 10)]) rfl sc_law.nd (ei_list (ee_call0 C__law_promises hr (by decide) (by rfl))) (by rfl) (egb_mk fun _ _ _ _ _ => (eg_name (i := 10) sc_law.nd rfl (by first | exact .inl rfl | exact .inr rfl))) (etb_one fun _ _ _ _ _ => (et_cmp (cm_ne hr) (ee_call C_holds hr (by decide) (by rfl) (ea_cons (ee_var 8) (ea_cons (ee_var 10) ea_nil)) (len_cons (len_cons len_nil))) (ee_call C_holds hr (by decide) (by rfl) (ea_cons (ee_var 2) (ea_cons (ee_var 10) ea_nil)) (len_cons (len_cons len_nil))))) (eeb_mk fun _ _ _ _ _ => (ee_var 10))) (ee_lst ea_nil))))) (ess_one (es_ret ee_bl)) ess_nil)
    (ess_cons (es_if (et_isN (ee_var 7)) (ess_one (es_ret ee_bl)) ess_nil)
    (ess_cons (es_if (EW.t (ew_or (et_cmp (cm_eq hr) (ee_call C_answer hr (by decide) (by rfl) (ea_cons (ee_var 7) (ea_cons (ee_var 6) ea_nil)) (len_cons (len_cons len_nil))) (ee_call C_answer hr (by decide) (by rfl) (ea_cons (ee_var 2) (ea_cons (ee_var 5) ea_nil)) (len_cons (len_cons len_nil)))) (ew_or (et_cmp (cm_ne hr) (ee_call C_matters hr (by decide) (by rfl) (ea_cons (ee_var 7) (ea_cons (ee_var 6) ea_nil)) (len_cons (len_cons len_nil))) (ee_call C_matters hr (by decide) (by rfl) (ea_cons (ee_var 2) (ea_cons (ee_var 5) ea_nil)) (len_cons (len_cons len_nil)))) (ew_or1 (et_cmp (cm_ne hr) (ee_call C_power hr (by decide) (by rfl) (ea_cons (ee_var 7) (ea_cons (ee_var 4) ea_nil)) (len_cons (len_cons len_nil))) (ee_call C_power hr (by decide) (by rfl) (ea_cons (ee_var 2) (ea_cons (ee_var 4) ea_nil)) (len_cons (len_cons len_nil)))))))) (ess_one (es_ret ee_bl)) ess_nil)
    (ess_cons (es_set (i := 11) sc_law.nd rfl (.inl rfl) ee_int)
    (ess_cons (es_for PassesOwn.never rfl (ei_rng1 (by rfl) T.f_range (ea_cons (ee_var 4) ea_nil)) (eg_name (i := 12) sc_law.nd rfl (by first | exact .inl rfl | exact .inr rfl)) (ess_one (es_set (i := 11) sc_law.nd rfl (.inl rfl) (ee_mul (ee_var 11) ee_int))))
    (ess_one (es_ret (ee_and (ee_cmp (cm_eq hr) (ee_add (ee_call C_count_allowed hr (by decide) (by rfl) (ea_cons (ee_var 2) (ea_cons (ee_var 4) ea_nil)) (len_cons (len_cons len_nil))) (ee_call C_count_allowed hr (by decide) (by rfl) (ea_cons (ee_var 7) (ea_cons (ee_var 4) ea_nil)) (len_cons (len_cons len_nil)))) (ee_var 11)) (ee_one (ee_cmp (cm_eq hr) (ee_lc (own := [("_law_one", 10)]) rfl sc_law.nd (ei_list (ee_call0 C__law_promises hr (by decide) (by rfl))) (by rfl) (egb_mk fun _ _ _ _ _ => (eg_name (i := 10) sc_law.nd rfl (by first | exact .inl rfl | exact .inr rfl))) (etb_one fun _ _ _ _ _ => (et_cmp (cm_ne hr) (ee_call C_holds hr (by decide) (by rfl) (ea_cons (ee_var 7) (ea_cons (ee_var 10) ea_nil)) (len_cons (len_cons len_nil))) (ee_call C_holds hr (by decide) (by rfl) (ea_cons (ee_var 2) (ea_cons (ee_var 10) ea_nil)) (len_cons (len_cons len_nil))))) (eeb_mk fun _ _ _ _ _ => (ee_var 10))) (ee_lst ea_nil))))))))))))))))⟩⟩) hd
end
end Rk11
end
set_option Elab.async false
set_option linter.all false
set_option maxRecDepth 100000
set_option maxHeartbeats 4000000
open PySem PySem.Spec PyProof.Rows L2 Dl
namespace Rk11
def dd (x : Str) (st : Stmt) : He.DefD := ⟨(x, none), x, x, defArgs st, defBody st, defScope st, [], []⟩
def fn : List He.DefD := [dd "is_voice" s_is_voice, dd "is_in" s_is_in, dd "need_number" s_need_number, dd "need_row" s_need_row, dd "turned" s_turned, dd "turned_at" s_turned_at, dd "need_way" s_need_way, dd "joined" s_joined, dd "said" s_said, dd "most_of" s_most_of, dd "answer_of" s_answer_of, dd "need_both" s_need_both, dd "answer" s_answer, dd "matters" s_matters, dd "choose" s_choose, dd "most_allowed" s_most_allowed, dd "allowed" s_allowed, dd "count_allowed" s_count_allowed, dd "most_power" s_most_power, dd "is_island" s_is_island, dd "stays" s_stays, dd "island_power" s_island_power, dd "power_of" s_power_of, dd "power" s_power, dd "need_promise" s_need_promise, dd "holds" s_holds, dd "_law_taken" s__law_taken, dd "_law_pick" s__law_pick, dd "_law_ways" s__law_ways, dd "_law_promises" s__law_promises, dd "_law_turned" s__law_turned, dd "_law_row" s__law_row, dd "_law_word" s__law_word, dd "_law_voices" s__law_voices, dd "_law_mirror" s__law_mirror, dd "_law_back" s__law_back, dd "law" s_law]
def fa0 : List He.Fa := [.glo "is_voice", .glo "is_in", .glo "need_number", .glo "need_row", .glo "turned", .glo "turned_at", .glo "need_way", .glo "joined", .glo "said", .glo "most_of", .glo "answer_of", .glo "need_both", .glo "answer", .glo "matters", .glo "choose", .glo "most_allowed", .glo "allowed", .glo "count_allowed", .glo "most_power", .glo "is_island", .glo "stays", .glo "island_power", .glo "power_of", .glo "power", .glo "need_promise", .glo "holds", .glo "_law_taken", .glo "_law_pick", .glo "_law_ways", .glo "_law_promises"]
def fa1 : List He.Fa := [.glo "_law_turned", .glo "_law_row", .glo "_law_word", .glo "_law_voices", .glo "_law_mirror", .glo "_law_back", .glo "law", .free "bool", .free "enumerate", .free "int", .free "isinstance", .free "len", .free "max", .free "min", .free "range", .free "sorted", .free "str", .free "tuple", .str "ALLOW" "allow", .str "DENY" "deny", .glo "VOICES", .int "MOST_ROW" 12, .glo "WAYS", .int "MOST_LENGTH" 60, .glo "PROMISES", .glo "KEPT"]
def fa : List He.Fa := fa0 ++ fa1
def ts : List He.Tab := [(fun K => He.ga K "KEPT", ["allow over", "always allow", "always deny", "both ends", "deny over", "first", "island", "last", "most or allow", "most or deny", "most or first", "most or last", "odd"])]
def ex (K : PySem.W.Frag) : Bool := He.tupB K "VOICES" (l_VOICES.map He.Dv.str) && (He.tupB K "WAYS" (l_WAYS.map He.Dv.str) && (He.tupB K "PROMISES" (l_PROMISES.map He.Dv.str) && (ktabB K (He.ga K "KEPT") l_KEPT)))
theorem facts {P : Program} {w : World} {K : PySem.W.Frag} {h : Heap} {mg : Str → Option Value} {f : Addr} (X : K.In h) (G : h.Ns mainGlobals mg) (hfa : mg ("law" : Str) = some (.ref f)) (ct : He.SaysT fa fn ts w K) (hex : ex K = true) :
    ∃ fd : FuncData, (∀ (s : Shared) (v : Value), BindsTo s fd ⟨[v], []⟩ [("_law_script", v)]) ∧ ∀ base : Heap, K.In base → base.Ns mainGlobals mg → FnOk P w K mg base CX0 7 f fd ["_law_script"] (spLaw K) := by
  unfold ex at hex
  obtain ⟨e_VOICES, hex⟩ := He.ba hex
  obtain ⟨e_WAYS, hex⟩ := He.ba hex
  obtain ⟨e_PROMISES, hex⟩ := He.ba hex
  have e_KEPT := hex
  have T : Tx K w mg := ⟨He.free_ok X G (ct.d.fact 37 (f := .free "bool") rfl),
    He.free_ok X G (ct.d.fact 38 (f := .free "enumerate") rfl),
    He.free_ok X G (ct.d.fact 39 (f := .free "int") rfl),
    He.free_ok X G (ct.d.fact 40 (f := .free "isinstance") rfl),
    He.free_ok X G (ct.d.fact 41 (f := .free "len") rfl),
    He.free_ok X G (ct.d.fact 42 (f := .free "max") rfl),
    He.free_ok X G (ct.d.fact 43 (f := .free "min") rfl),
    He.free_ok X G (ct.d.fact 44 (f := .free "range") rfl),
    He.free_ok X G (ct.d.fact 45 (f := .free "sorted") rfl),
    He.free_ok X G (ct.d.fact 46 (f := .free "str") rfl),
    He.free_ok X G (ct.d.fact 47 (f := .free "tuple") rfl),
    He.str_ok X G (ct.d.fact 48 (f := .str "ALLOW" "allow") rfl),
    He.str_ok X G (ct.d.fact 49 (f := .str "DENY" "deny") rfl),
    ⟨He.glo_ok X G (ct.d.fact 50 (f := .glo "VOICES") rfl), fun H => He.tupB_ok e_VOICES H⟩,
    He.int_ok X G (ct.d.fact 51 (f := .int "MOST_ROW" 12) rfl),
    ⟨He.glo_ok X G (ct.d.fact 52 (f := .glo "WAYS") rfl), fun H => He.tupB_ok e_WAYS H⟩,
    He.int_ok X G (ct.d.fact 53 (f := .int "MOST_LENGTH" 60) rfl),
    ⟨He.glo_ok X G (ct.d.fact 54 (f := .glo "PROMISES") rfl), fun H => He.tupB_ok e_PROMISES H⟩,
    ⟨He.glo_ok X G (ct.d.fact 55 (f := .glo "KEPT") rfl), ktab_ok e_KEPT (ct.tab 0 (t := (fun K => He.ga K "KEPT", ["allow over", "always allow", "always deny", "both ends", "deny over", "first", "island", "last", "most or allow", "most or deny", "most or first", "most or last", "odd"])) rfl)⟩⟩
  have e := hfa.symm.trans (He.glo_ok X G (ct.d.fact 36 (f := .glo "law") rfl))
  cases e
  have C_is_voice : ∀ base : Heap, Cd P w K mg base 2 "is_voice" 1 f_is_voice := fun base => ok_is_voice T (ct.d.def_ 0 (d := dd "is_voice" s_is_voice) rfl) (He.glo_ok X G (ct.d.fact 0 (f := .glo "is_voice") rfl)) 
  have C_is_in : ∀ base : Heap, Cd P w K mg base 2 "is_in" 3 f_is_in := fun base => ok_is_in T (ct.d.def_ 1 (d := dd "is_in" s_is_in) rfl) (He.glo_ok X G (ct.d.fact 1 (f := .glo "is_in") rfl)) 
  have C_need_number : ∀ base : Heap, Cd P w K mg base 3 "need_number" 3 f_need_number := fun base => ok_need_number T (ct.d.def_ 2 (d := dd "need_number" s_need_number) rfl) (He.glo_ok X G (ct.d.fact 2 (f := .glo "need_number") rfl)) (C_is_in base)
  have C_need_row : ∀ base : Heap, Cd P w K mg base 3 "need_row" 1 f_need_row := fun base => ok_need_row T (ct.d.def_ 3 (d := dd "need_row" s_need_row) rfl) (He.glo_ok X G (ct.d.fact 3 (f := .glo "need_row") rfl)) (C_is_voice base)
  have C_turned : ∀ base : Heap, Cd P w K mg base 2 "turned" 1 f_turned := fun base => ok_turned T (ct.d.def_ 4 (d := dd "turned" s_turned) rfl) (He.glo_ok X G (ct.d.fact 4 (f := .glo "turned") rfl)) 
  have C_turned_at : ∀ base : Heap, Cd P w K mg base 3 "turned_at" 2 f_turned_at := fun base => ok_turned_at T (ct.d.def_ 5 (d := dd "turned_at" s_turned_at) rfl) (He.glo_ok X G (ct.d.fact 5 (f := .glo "turned_at") rfl)) (C_turned base)
  have C_need_way : ∀ base : Heap, Cd P w K mg base 2 "need_way" 1 f_need_way := fun base => ok_need_way T (ct.d.def_ 6 (d := dd "need_way" s_need_way) rfl) (He.glo_ok X G (ct.d.fact 6 (f := .glo "need_way") rfl)) 
  have C_joined : ∀ base : Heap, Cd P w K mg base 2 "joined" 1 f_joined := fun base => ok_joined T (ct.d.def_ 7 (d := dd "joined" s_joined) rfl) (He.glo_ok X G (ct.d.fact 7 (f := .glo "joined") rfl)) 
  have C_said : ∀ base : Heap, Cd P w K mg base 2 "said" 1 f_said := fun base => ok_said T (ct.d.def_ 8 (d := dd "said" s_said) rfl) (He.glo_ok X G (ct.d.fact 8 (f := .glo "said") rfl)) 
  have C_most_of : ∀ base : Heap, Cd P w K mg base 3 "most_of" 2 f_most_of := fun base => ok_most_of T (ct.d.def_ 9 (d := dd "most_of" s_most_of) rfl) (He.glo_ok X G (ct.d.fact 9 (f := .glo "most_of") rfl)) (C_said base)
  have C_answer_of : ∀ base : Heap, Cd P w K mg base 4 "answer_of" 2 f_answer_of := fun base => ok_answer_of T (ct.d.def_ 10 (d := dd "answer_of" s_answer_of) rfl) (He.glo_ok X G (ct.d.fact 10 (f := .glo "answer_of") rfl)) (C_joined base) (C_most_of base) (C_said base)
  have C_need_both : ∀ base : Heap, Cd P w K mg base 4 "need_both" 2 f_need_both := fun base => ok_need_both T (ct.d.def_ 11 (d := dd "need_both" s_need_both) rfl) (He.glo_ok X G (ct.d.fact 11 (f := .glo "need_both") rfl)) (C_need_row base) (C_need_way base)
  have C_answer : ∀ base : Heap, Cd P w K mg base 5 "answer" 2 f_answer := fun base => ok_answer T (ct.d.def_ 12 (d := dd "answer" s_answer) rfl) (He.glo_ok X G (ct.d.fact 12 (f := .glo "answer") rfl)) (C_answer_of base) (C_need_both base)
  have C_matters : ∀ base : Heap, Cd P w K mg base 5 "matters" 2 f_matters := fun base => ok_matters T (ct.d.def_ 13 (d := dd "matters" s_matters) rfl) (He.glo_ok X G (ct.d.fact 13 (f := .glo "matters") rfl)) (C_answer_of base) (C_need_both base) (C_turned_at base)
  have C_choose : ∀ base : Heap, Cd P w K mg base 2 "choose" 2 f_choose := fun base => ok_choose T (ct.d.def_ 14 (d := dd "choose" s_choose) rfl) (He.glo_ok X G (ct.d.fact 14 (f := .glo "choose") rfl)) 
  have C_most_allowed : ∀ base : Heap, Cd P w K mg base 3 "most_allowed" 2 f_most_allowed := fun base => ok_most_allowed T (ct.d.def_ 15 (d := dd "most_allowed" s_most_allowed) rfl) (He.glo_ok X G (ct.d.fact 15 (f := .glo "most_allowed") rfl)) (C_choose base)
  have C_allowed : ∀ base : Heap, Cd P w K mg base 4 "allowed" 2 f_allowed := fun base => ok_allowed T (ct.d.def_ 16 (d := dd "allowed" s_allowed) rfl) (He.glo_ok X G (ct.d.fact 16 (f := .glo "allowed") rfl)) (C_choose base) (C_most_allowed base)
  have C_count_allowed : ∀ base : Heap, Cd P w K mg base 5 "count_allowed" 2 f_count_allowed := fun base => ok_count_allowed T (ct.d.def_ 17 (d := dd "count_allowed" s_count_allowed) rfl) (He.glo_ok X G (ct.d.fact 17 (f := .glo "count_allowed") rfl)) (C_allowed base) (C_need_number base) (C_need_way base)
  have C_most_power : ∀ base : Heap, Cd P w K mg base 3 "most_power" 2 f_most_power := fun base => ok_most_power T (ct.d.def_ 18 (d := dd "most_power" s_most_power) rfl) (He.glo_ok X G (ct.d.fact 18 (f := .glo "most_power") rfl)) (C_choose base)
  have C_is_island : ∀ base : Heap, Cd P w K mg base 2 "is_island" 3 f_is_island := fun base => ok_is_island T (ct.d.def_ 19 (d := dd "is_island" s_is_island) rfl) (He.glo_ok X G (ct.d.fact 19 (f := .glo "is_island") rfl)) 
  have C_stays : ∀ base : Heap, Cd P w K mg base 3 "stays" 4 f_stays := fun base => ok_stays T (ct.d.def_ 20 (d := dd "stays" s_stays) rfl) (He.glo_ok X G (ct.d.fact 20 (f := .glo "stays") rfl)) (C_is_island base)
  have C_island_power : ∀ base : Heap, Cd P w K mg base 4 "island_power" 1 f_island_power := fun base => ok_island_power T (ct.d.def_ 21 (d := dd "island_power" s_island_power) rfl) (He.glo_ok X G (ct.d.fact 21 (f := .glo "island_power") rfl)) (C_stays base)
  have C_power_of : ∀ base : Heap, Cd P w K mg base 5 "power_of" 2 f_power_of := fun base => ok_power_of T (ct.d.def_ 22 (d := dd "power_of" s_power_of) rfl) (He.glo_ok X G (ct.d.fact 22 (f := .glo "power_of") rfl)) (C_island_power base) (C_most_power base)
  have C_power : ∀ base : Heap, Cd P w K mg base 6 "power" 2 f_power := fun base => ok_power T (ct.d.def_ 23 (d := dd "power" s_power) rfl) (He.glo_ok X G (ct.d.fact 23 (f := .glo "power") rfl)) (C_need_number base) (C_need_way base) (C_power_of base)
  have C_need_promise : ∀ base : Heap, Cd P w K mg base 2 "need_promise" 1 f_need_promise := fun base => ok_need_promise T (ct.d.def_ 24 (d := dd "need_promise" s_need_promise) rfl) (He.glo_ok X G (ct.d.fact 24 (f := .glo "need_promise") rfl)) 
  have C_holds : ∀ base : Heap, Cd P w K mg base 3 "holds" 2 f_holds := fun base => ok_holds T (ct.d.def_ 25 (d := dd "holds" s_holds) rfl) (He.glo_ok X G (ct.d.fact 25 (f := .glo "holds") rfl)) (C_need_promise base) (C_need_way base)
  have C__law_taken : ∀ base : Heap, Cd P w K mg base 2 "_law_taken" 2 f__law_taken := fun base => ok__law_taken T (ct.d.def_ 26 (d := dd "_law_taken" s__law_taken) rfl) (He.glo_ok X G (ct.d.fact 26 (f := .glo "_law_taken") rfl)) 
  have C__law_pick : ∀ base : Heap, Cd P w K mg base 3 "_law_pick" 2 f__law_pick := fun base => ok__law_pick T (ct.d.def_ 27 (d := dd "_law_pick" s__law_pick) rfl) (He.glo_ok X G (ct.d.fact 27 (f := .glo "_law_pick") rfl)) (C__law_taken base)
  have C__law_ways : ∀ base : Heap, Cd P w K mg base 2 "_law_ways" 0 f__law_ways := fun base => ok__law_ways T (ct.d.def_ 28 (d := dd "_law_ways" s__law_ways) rfl) (He.glo_ok X G (ct.d.fact 28 (f := .glo "_law_ways") rfl)) 
  have C__law_promises : ∀ base : Heap, Cd P w K mg base 2 "_law_promises" 0 f__law_promises := fun base => ok__law_promises T (ct.d.def_ 29 (d := dd "_law_promises" s__law_promises) rfl) (He.glo_ok X G (ct.d.fact 29 (f := .glo "_law_promises") rfl)) 
  have C__law_turned : ∀ base : Heap, Cd P w K mg base 2 "_law_turned" 1 f__law_turned := fun base => ok__law_turned T (ct.d.def_ 30 (d := dd "_law_turned" s__law_turned) rfl) (He.glo_ok X G (ct.d.fact 30 (f := .glo "_law_turned") rfl)) 
  have C__law_row : ∀ base : Heap, Cd P w K mg base 4 "_law_row" 2 f__law_row := fun base => ok__law_row T (ct.d.def_ 31 (d := dd "_law_row" s__law_row) rfl) (He.glo_ok X G (ct.d.fact 31 (f := .glo "_law_row") rfl)) (C__law_pick base) (C__law_taken base)
  have C__law_word : ∀ base : Heap, Cd P w K mg base 2 "_law_word" 1 f__law_word := fun base => ok__law_word T (ct.d.def_ 32 (d := dd "_law_word" s__law_word) rfl) (He.glo_ok X G (ct.d.fact 32 (f := .glo "_law_word") rfl)) 
  have C__law_voices : ∀ base : Heap, Cd P w K mg base 3 "_law_voices" 1 f__law_voices := fun base => ok__law_voices T (ct.d.def_ 33 (d := dd "_law_voices" s__law_voices) rfl) (He.glo_ok X G (ct.d.fact 33 (f := .glo "_law_voices") rfl)) (C__law_word base)
  have C__law_mirror : ∀ base : Heap, Cd P w K mg base 2 "_law_mirror" 1 f__law_mirror := fun base => ok__law_mirror T (ct.d.def_ 34 (d := dd "_law_mirror" s__law_mirror) rfl) (He.glo_ok X G (ct.d.fact 34 (f := .glo "_law_mirror") rfl)) 
  have C__law_back : ∀ base : Heap, Cd P w K mg base 2 "_law_back" 1 f__law_back := fun base => ok__law_back T (ct.d.def_ 35 (d := dd "_law_back" s__law_back) rfl) (He.glo_ok X G (ct.d.fact 35 (f := .glo "_law_back") rfl)) 
  obtain ⟨fd, F⟩ := (ct.d.def_ 36 (d := dd "law" s_law) rfl)
  have b := FunD.bindsA (ps := ["_law_script"]) F fun _ _ _ _ _ _ us hl => match us, hl with | [_], _ => rfl
  refine ⟨fd, fun s v => b s [v] rfl, fun base _ _ => ok_law T F (C__law_back base) (C__law_mirror base) (C__law_pick base) (C__law_promises base) (C__law_row base) (C__law_taken base) (C__law_turned base) (C__law_voices base) (C__law_ways base) (C_answer base) (C_count_allowed base) (C_holds base) (C_matters base) (C_power base) law_pure⟩
end Rk11
open PySem PySem.W PyProof.Rows
set_option maxHeartbeats 0 in
theorem PySem.Challenge.cw_rulevoices_k11_across_mirrors_holds : PySem.Challenge.rw_rulevoices_k11_across_mirrors.Holds := by
  w_on; o_law; k_head; (case hw => w_witness2)
  k_fill
  refine L2.walk_of (l := PySem.Challenge.rw_rulevoices_k11_across_mirrors) (n := 63) (k := 7) (x := "_law_script") (CX := fun _ => L2.CX0) (sp := fun w => Dl.spLaw _) rfl (by decide) rfl ⟨rfl, by decide, by decide⟩ (fun w h Y => PySem.W.kIn_of Y) ?F (fun _ _ a ns hl _ hS => ⟨a, ns, rfl, hS, hl, fun _ => rfl⟩) (fun _ _ _ _ _ h => h)
  case F =>
    intro w mg fa h KX G hmg
    exact Rk11.facts KX G hmg (show He.obsT Rk11.fa Rk11.fn Rk11.ts _ = He.valT Rk11.fn Rk11.ts w by kernel_rfl) (by kernel_rfl)
