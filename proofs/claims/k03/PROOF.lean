import PyProof.Rows.All
import Wide.All
import OpenK.AllK
import Wide.FinOn
import HandS.ForMost
import HandS.Defaults
import HandS.IsInst
import HandS.Star
import HandS.Deep
import HandS.TupAny
import HandS.Zip
import HandS.Style
import KE.GoesEnum
import HandS.Iter
import KE.KRevSl
import PyProof.Rows.SumAny
import HandS.More
import HandS.SortInts
import HandS.HeadHook4
import HandS.Small
import HandS.Conv
import HandS.Strs
import HandS.TupSets
import HandS.SortRule
import KE.KDictKeyed
import HandS.MapObj
import PyProof.ListNew
import HandS.HotCalls
import HandS.ExcIs
import HandS.ExcCtx
import HandS.RaiseFrom
import HandS.TupMul
import KE.KStateDown
import HandS.HeadEnd
import HandS.Head2
import PySem.Challenge.RW_rulevoices_k03_whole_maps
section
set_option Elab.async false
set_option linter.all false
set_option maxRecDepth 100000
set_option maxHeartbeats 4000000
namespace Dl
open PySem PySem.Spec PyProof.Rows L2

/-- what the program's run knows: its fixed objects, its text, its world -/
structure Kx where
  f : PySem.W.Frag
  P : Program
  w : World
instance : Coe Kx PySem.W.Frag := ⟨Kx.f⟩
abbrev _root_.L2.Cx.kx (X : Cx) : Kx := ⟨X.K, X.prog, X.w⟩
/-- the dict at a: its keys (tuples of texts, each with the object that bears it), its values -/
def DTo (P : Program) (w : World) (a : Addr) (ks : List (List Str × Addr)) (vs : List V) : HO := .ext fun h => (a == sysModules) = false ∧ ks.length ≤ sizeLine ∧ ∃ xs : List (List Key × Addr × Value),
  xs.map (fun x => (x.1, x.2.1)) = ks.map (fun k => (k.1.map Sum.inr, k.2)) ∧ Vals vs (xs.map fun x => x.2.2) ∧ ∃ o es ep, h.get? a = some o ∧ o.ExactDict ∧ o.data = .dict es ep ∧ es.toList = xs.map (entryOfKey (tupleKind (mixKind P w))) ∧ (xs.map fun x => x.1).Nodup
/-! data: what a value stands for -/
inductive D where
  | non | bl (b : Bool) | int (i : Int) | str (x : Str) | tup (xs : List D) | ktp (xs : List D) | lst (xs : List D)
  | dS (kvs : List (Str × D)) | dT (kvs : List (List Str × D)) | sl (ns : List Int) | rw | fn (v : V)

/-- the draws' list: place, mix, rest; the script -/
structure Tau where
  a : Int
  b : Int
  c : Int
  ns : List Int

/-- knowledge: what of the heap stays -/
def Sub (I H : Hp) : Prop := ∀ a o, I a = some o → H a = some o ∨ ((∃ kvs, o = HO.dK kvs) ∧ ∃ ob, H a = some (.frz ob o))
def Kp (c : Option Addr) (H H' : Hp) : Prop := ∀ a o, c ≠ some a → H a = some o → H' a = some o

/-- a tuple's object, nothing beside it -/
def TupO (o : Obj) : Prop := o.cls = .type "tuple" ∧ o.dict = none

mutual
inductive Rep (K : Kx) (c : Option Addr) (I : Hp) : V → D → Prop
  | non : Rep K c I .non .non
  | bl (b : Bool) : Rep K c I (.bl b) (.bl b)
  | int (i : Int) : Rep K c I (.int i) (.int i)
  | str (x : Str) : Rep K c I (.str x) (.str x)
  | tup {a : Addr} {o : Obj} {xs : List V} {ds : List D} : I a = some (.frz o (.tup xs)) → TupO o → RepL K c I xs ds → Rep K c I (.ref a) (.tup ds)
  | ktp {a : Addr} {xs : List V} {ds : List D} : SqT K I a xs → RepL K c I xs ds → Rep K c I (.ref a) (.ktp ds)
  | lst {a : Addr} {xs : List V} {ds : List D} : I a = some (.lst xs) → RepL K c I xs ds → Rep K c I (.ref a) (.lst ds)
  | dS {a : Addr} {kvs : List (Key × V)} {es : List (Str × D)} : I a = some (.dK kvs) → RepS K c I kvs es → Rep K c I (.ref a) (.dS es)
  | dT {a : Addr} {ks : List (List Str × Addr)} {vs : List V} {es : List (List Str × D)} : I a = some (DTo K.P K.w a ks vs) → RepT K c I ks vs es → Rep K c I (.ref a) (.dT es)
  | sl {a : Addr} {ns : List Int} : SqL K I a (ns.map V.int) → Rep K c I (.ref a) (.sl ns)
  | rw {a : Addr} : c = some a → Rep K c I (.ref a) .rw
  | fn (v : V) : Rep K c I v (.fn v)
inductive RepL (K : Kx) (c : Option Addr) (I : Hp) : List V → List D → Prop
  | nil : RepL K c I [] []
  | cons {v : V} {d : D} {vs : List V} {ds : List D} : Rep K c I v d → RepL K c I vs ds → RepL K c I (v :: vs) (d :: ds)
inductive RepS (K : Kx) (c : Option Addr) (I : Hp) : List (Key × V) → List (Str × D) → Prop
  | nil : RepS K c I [] []
  | cons {v : V} {d : D} {k : Str} {vs : List (Key × V)} {ds : List (Str × D)} : Rep K c I v d → RepS K c I vs ds → RepS K c I ((.inr k, v) :: vs) ((k, d) :: ds)
inductive RepT (K : Kx) (c : Option Addr) (I : Hp) : List (List Str × Addr) → List V → List (List Str × D) → Prop
  | nil : RepT K c I [] [] []
  | cons {v : V} {d : D} {k : List Str} {b : Addr} {ks : List (List Str × Addr)} {vs : List V} {ds : List (List Str × D)} : SqT K I b (k.map V.str) → Rep K c I v d → RepT K c I ks vs ds → RepT K c I ((k, b) :: ks) (v :: vs) ((k, d) :: ds)
end

def D.asT : D → Option (List D)
  | .tup xs => some xs
  | .ktp xs => some xs
  | _ => none
theorem Sub.refl (I : Hp) : Sub I I := fun _ _ h => .inl h
def Sb (I H : Hp) : Prop := ∀ a o, I a = some o → H a = some o
theorem Sb.refl (I : Hp) : Sb I I := fun _ _ h => h
theorem Sb.trans {I J H : Hp} (h : Sb I J) (g : Sb J H) : Sb I H := fun a o e => g a o (h a o e)
theorem Sb.sub {I J H : Hp} (h : Sb I J) (g : Sub J H) : Sub I H := fun a o e => g a o (h a o e)
theorem Kp.refl (c : Option Addr) (I : Hp) : Kp c I I := fun _ _ _ h => h
theorem Kp.trans {c : Option Addr} {I J H : Hp} (h : Kp c I J) (g : Kp c J H) : Kp c I H := fun a o n e => g a o n (h a o n e)
theorem Kp.up {c : Option Addr} {I J : Hp} (h : Kp none I J) : Kp c I J := fun a o _ e => h a o (by simp) e
theorem sb_rd {I J : Hp} (h : Sb I J) {a : Addr} {u : HO} (r : Rd I a u) : Rd J a u := by
  rcases r with r | ⟨o, r⟩
  · exact .inl (h _ _ r)
  · exact .inr ⟨o, h _ _ r⟩
theorem sb_sqT {K : Kx} {I J : Hp} (h : Sb I J) {a : Addr} {xs : List V} (r : SqT K I a xs) : SqT K J a xs := r.elim (fun r => .inl (sb_rd h r)) .inr
theorem sb_sqL {K : Kx} {I J : Hp} (h : Sb I J) {a : Addr} {xs : List V} (r : SqL K I a xs) : SqL K J a xs := r.elim (fun r => .inl (sb_rd h r)) .inr

section
variable {K : Kx} {c : Option Addr} {I J : Hp}
mutual
theorem Rep.mono (h : Sb I J) : ∀ {v : V} {d : D}, Rep K c I v d → Rep K c J v d
  | _, _, .non => .non
  | _, _, .bl b => .bl b
  | _, _, .int b => .int b
  | _, _, .str b => .str b
  | _, _, .tup s z r => .tup (h _ _ s) z (RepL.mono h r)
  | _, _, .ktp s r => .ktp (sb_sqT h s) (RepL.mono h r)
  | _, _, .lst s r => .lst (h _ _ s) (RepL.mono h r)
  | _, _, .dS s r => .dS (h _ _ s) (RepS.mono h r)
  | _, _, .dT s r => .dT (h _ _ s) (RepT.mono h r)
  | _, _, .sl s => .sl (sb_sqL h s)
  | _, _, .rw e => .rw e
  | _, _, .fn v => .fn v
theorem RepL.mono (h : Sb I J) : ∀ {vs : List V} {ds : List D}, RepL K c I vs ds → RepL K c J vs ds
  | _, _, .nil => .nil
  | _, _, .cons a b => .cons (Rep.mono h a) (RepL.mono h b)
theorem RepS.mono (h : Sb I J) : ∀ {vs : List (Key × V)} {ds : List (Str × D)}, RepS K c I vs ds → RepS K c J vs ds
  | _, _, .nil => .nil
  | _, _, .cons a b => .cons (Rep.mono h a) (RepS.mono h b)
theorem RepT.mono (h : Sb I J) : ∀ {ks : List (List Str × Addr)} {vs : List V} {ds : List (List Str × D)}, RepT K c I ks vs ds → RepT K c J ks vs ds
  | _, _, _, .nil => .nil
  | _, _, _, .cons q a b => .cons (sb_sqT h q) (Rep.mono h a) (RepT.mono h b)
end
theorem RepL.length : ∀ {vs : List V} {ds : List D}, RepL K c I vs ds → vs.length = ds.length
  | _, _, .nil => rfl
  | _, _, .cons _ r => congrArg Nat.succ r.length
theorem RepL.get : ∀ {vs : List V} {ds : List D} {i : Nat} {d : D}, RepL K c I vs ds → ds[i]? = some d → ∃ v, vs[i]? = some v ∧ Rep K c I v d
  | _, _, _, _, .nil, e => by simp at e
  | _, _, 0, _, .cons a _, e => by simp at e; subst e; exact ⟨_, rfl, a⟩
  | _, _, i + 1, d, .cons _ r, e => by
    obtain ⟨v, h1, h2⟩ := RepL.get (i := i) (d := d) r (by simpa using e)
    exact ⟨v, by simpa using h1, h2⟩
theorem RepL.app : ∀ {vs ws : List V} {ds es : List D}, RepL K c I vs ds → RepL K c I ws es → RepL K c I (vs ++ ws) (ds ++ es)
  | _, _, _, _, .nil, s => s
  | _, _, _, _, .cons a r, s => .cons a (r.app s)
theorem RepL.take : ∀ {vs : List V} {ds : List D} (n : Nat), RepL K c I vs ds → RepL K c I (vs.take n) (ds.take n)
  | _, _, 0, _ => .nil
  | _, _, _ + 1, .nil => .nil
  | _, _, n + 1, .cons a r => .cons a (r.take n)
theorem RepL.drop : ∀ {vs : List V} {ds : List D} (n : Nat), RepL K c I vs ds → RepL K c I (vs.drop n) (ds.drop n)
  | _, _, 0, r => r
  | _, _, _ + 1, .nil => .nil
  | _, _, n + 1, .cons a r => r.drop n
theorem RepL.one {v : V} {d : D} (h : Rep K c I v d) : RepL K c I [v] [d] := .cons h .nil
theorem RepL.ints : ∀ (ns : List Int), RepL K c I (ns.map V.int) (ns.map D.int)
  | [] => .nil
  | n :: ns => .cons (.int n) (RepL.ints ns)
theorem RepL.rep {vs : List V} {ds : List D} (h : RepL K c I vs ds) : ∀ n : Nat, RepL K c I (List.replicate n vs).flatten (List.replicate n ds).flatten
  | 0 => .nil
  | n + 1 => by
    rw [List.replicate_succ, List.replicate_succ, List.flatten_cons, List.flatten_cons]
    exact h.app (h.rep n)
end

theorem Rep.asT {K : Kx} {c : Option Addr} {I : Hp} {v : V} {d : D} {ds : List D} (h : Rep K c I v d) (e : d.asT = some ds) : ∃ a xs, v = .ref a ∧ SqT K I a xs ∧ RepL K c I xs ds := by
  cases h with
  | tup h _ r => cases e; exact ⟨_, _, rfl, .inl (.inr ⟨_, h⟩), r⟩
  | ktp h r => cases e; exact ⟨_, _, rfl, h, r⟩
  | _ => cases e
/-- the draws' list as it stands -/
def DW (K : Kx) (c : Option Addr) (s : Tau) (I H : Hp) : Prop :=
  ∀ r, c = some r → I r = none ∧ ∃ sc, H r = some (.lst [.ref sc, .int s.a, .int s.b, .int s.c]) ∧ SqL K I sc (s.ns.map V.int)
/-- from one state to a later one -/
structure Gr (c : Option Addr) (I H I' H' : Hp) : Prop where
  s1 : Sb I I'
  s2 : Sub I' H'
  kp : Kp c H H'
  nw : ∀ a, I' a ≠ none → I a ≠ none ∨ H a = none
theorem Gr.refl {c : Option Addr} {I H : Hp} (s : Sub I H) : Gr c I H I H := ⟨.refl _, s, .refl _ _, fun _ h => .inl h⟩
theorem Gr.trans {c : Option Addr} {I H I1 H1 I2 H2 : Hp} (hc : ∀ r, c = some r → H r ≠ none → I1 r = none → H1 r ≠ none) (g : Gr c I H I1 H1) (k : Gr c I1 H1 I2 H2) : Gr c I H I2 H2 :=
  ⟨g.s1.trans k.s1, k.s2, g.kp.trans k.kp, fun a h => by
    rcases k.nw a h with h | h
    · exact g.nw a h
    · by_cases e : c = some a
      · by_cases q : H a = none
        · exact .inr q
        · by_cases z : I1 a = none
          · exact absurd h (hc a e q z)
          · exact g.nw a z
      · right
        cases q : H a with
        | none => rfl
        | some o => rw [g.kp a o e q] at h; cases h⟩
theorem Gr.up {c : Option Addr} {I H I' H' : Hp} (g : Gr none I H I' H') : Gr c I H I' H' := ⟨g.s1, g.s2, g.kp.up, g.nw⟩
end Dl
end
section
set_option Elab.async false
set_option linter.all false
set_option maxRecDepth 100000
set_option maxHeartbeats 4000000
namespace Dl
open PySem PySem.Spec PyProof.Rows L2 StX

section
variable {K : Kx} {c : Option Addr} {I H I' H' I1 H1 I2 H2 : Hp} {s s1 s2 : Tau} {a p : Addr} {o : HO}
theorem Sub.get (h : Sub I H) (e : I a = some o) (n : ∀ kvs, o ≠ .dK kvs) : H a = some o := by
  rcases h a o e with q | ⟨⟨kvs, z⟩, _⟩
  · exact q
  · exact absurd z (n kvs)
theorem Sub.lst {xs : List V} (h : Sub I H) (e : I a = some (.lst xs)) : H a = some (.lst xs) := h.get e fun _ z => by cases z
theorem Sub.tup {xs : List V} (h : Sub I H) (e : I a = some (.tup xs)) : H a = some (.tup xs) := h.get e fun _ z => by cases z
theorem Sub.dT {xs : List (List Key × V)} (h : Sub I H) (e : I a = some (.dT xs)) : H a = some (.dT xs) := h.get e fun _ z => by cases z
theorem Sub.dK {xs : List (Key × V)} (h : Sub I H) (e : I a = some (.dK xs)) : Rd H a (.dK xs) := by
  rcases h a _ e with q | ⟨_, q⟩
  · exact .inl q
  · exact .inr q
theorem Sub.rdT {xs : List V} (h : Sub I H) (e : Rd I a (.tup xs)) : Rd H a (.tup xs) := by
  rcases e with e | ⟨o, e⟩
  · exact .inl (h.get e fun _ z => by cases z)
  · exact .inr ⟨o, h.get e fun _ z => by cases z⟩
theorem Sub.rdL {xs : List V} (h : Sub I H) (e : Rd I a (.lst xs)) : Rd H a (.lst xs) := by
  rcases e with e | ⟨o, e⟩
  · exact .inl (h.get e fun _ z => by cases z)
  · exact .inr ⟨o, h.get e fun _ z => by cases z⟩
theorem Sub.sqT {xs : List V} (h : Sub I H) (e : SqT K I a xs) : SqT K H a xs := e.elim (fun e => .inl (h.rdT e)) .inr
theorem Sub.sqL {xs : List V} (h : Sub I H) (e : SqL K I a xs) : SqL K H a xs := e.elim (fun e => .inl (h.rdL e)) .inr
theorem Sub.free (h : Sub I H) (e : H a = none) : I a = none := by
  cases q : I a with
  | none => rfl
  | some o =>
    rcases h a o q with z | ⟨_, ob, z⟩
    · rw [e] at z; cases z
    · rw [e] at z; cases z
theorem Gr.new (s : Sub I H) (h : H p = none) : Gr none I H (upd I p o) (upd H p o) := by
  have hI := s.free h
  refine ⟨fun a u e => ?_, fun a u e => ?_, fun a u _ e => ?_, fun a e => ?_⟩
  · rw [upd_ne (ne_of_none e hI)]; exact e
  · by_cases z : a = p
    · subst z; rw [upd_same] at e ⊢; exact .inl e
    · rw [upd_ne z] at e ⊢; exact s a u e
  · rw [upd_ne (ne_of_none e h)]; exact e
  · by_cases z : a = p
    · subst z; exact .inr h
    · rw [upd_ne z] at e; exact .inl e
theorem DW.gr (w : DW K c s I H) (g : Gr none I H I' H') : DW K c s I' H' := fun r e => by
  obtain ⟨h1, sc, h2, h3⟩ := w r e
  refine ⟨?_, sc, g.kp _ _ (by simp) h2, sb_sqL g.s1 h3⟩
  cases q : I' r with
  | none => rfl
  | some o =>
    rcases g.nw r (by rw [q]; simp) with z | z
    · exact absurd h1 z
    · rw [h2] at z; cases z
theorem Gr.tr (g : Gr c I H I1 H1) (w : DW K c s I1 H1) (k : Gr c I1 H1 I2 H2) : Gr c I H I2 H2 :=
  g.trans (fun r e h1 h2 => by
    obtain ⟨_, sc, q, _⟩ := w r e
    rw [q]; simp) k

/-- slots -/
inductive Sl where
  | un | im (d : D) | ow (d : D)
inductive OwOk (K : Kx) (c : Option Addr) (I H : Hp) (p : Addr) : D → Prop
  | lst {vs : List V} {ds : List D} : H p = some (.lst vs) → RepL K c I vs ds → I p = none → c ≠ some p → OwOk K c I H p (.lst ds)
  | dS {vs : List (Key × V)} {ds : List (Str × D)} : H p = some (.dK vs) → RepS K c I vs ds → I p = none → c ≠ some p → OwOk K c I H p (.dS ds)
inductive SlOk (K : Kx) (c : Option Addr) (I H : Hp) : Option V → Sl → Prop
  | un (o : Option V) : SlOk K c I H o .un
  | im {v : V} {d : D} : Rep K c I v d → SlOk K c I H (some v) (.im d)
  | ow {p : Addr} {d : D} : OwOk K c I H p d → SlOk K c I H (some (.ref p)) (.ow d)
inductive SlL (K : Kx) (c : Option Addr) (I H : Hp) : L2.St → List Sl → Prop
  | nil : SlL K c I H [] []
  | cons {o : Option V} {x : Sl} {σ : L2.St} {ρ : List Sl} : SlOk K c I H o x → SlL K c I H σ ρ → SlL K c I H (o :: σ) (x :: ρ)
/-- no two slots own one object -/
def Uq (σ : L2.St) (ρ : List Sl) : Prop := ∀ (i j : Nat) (p : Addr) (d e : D), i ≠ j → σ[i]? = some (some (V.ref p)) → σ[j]? = some (some (V.ref p)) → ρ[i]? = some (Sl.ow d) → ρ[j]? = some (Sl.ow e) → False
structure Ec (K : Kx) (c : Option Addr) (I H : Hp) (σ : L2.St) (ρ : List Sl) (s : Tau) : Prop where
  sub : Sub I H
  w : DW K c s I H
  sl : SlL K c I H σ ρ
  uq : Uq σ ρ
theorem OwOk.grow {d : D} (h : OwOk K c I H p d) (g : Gr c I H I' H') : OwOk K c I' H' p d := by
  have fr : ∀ {o}, H p = some o → I p = none → I' p = none := fun {o} h1 h2 => by
    cases q : I' p with
    | none => rfl
    | some u =>
      rcases g.nw p (by rw [q]; simp) with z | z
      · exact absurd h2 z
      · rw [h1] at z; cases z
  cases h with
  | lst h1 h2 h3 h4 => exact .lst (g.kp _ _ h4 h1) (h2.mono g.s1) (fr h1 h3) h4
  | dS h1 h2 h3 h4 => exact .dS (g.kp _ _ h4 h1) (h2.mono g.s1) (fr h1 h3) h4
theorem SlOk.grow {v : Option V} {x : Sl} (h : SlOk K c I H v x) (g : Gr c I H I' H') : SlOk K c I' H' v x := by
  cases h with
  | un => exact .un _
  | im h => exact .im (h.mono g.s1)
  | ow h => exact .ow (h.grow g)
theorem SlL.grow (g : Gr c I H I' H') : ∀ {σ : L2.St} {ρ : List Sl}, SlL K c I H σ ρ → SlL K c I' H' σ ρ
  | _, _, .nil => .nil
  | _, _, .cons a r => .cons (a.grow g) (r.grow g)
theorem SlL.length : ∀ {σ : L2.St} {ρ : List Sl}, SlL K c I H σ ρ → σ.length = ρ.length
  | _, _, .nil => rfl
  | _, _, .cons _ r => congrArg Nat.succ r.length
theorem SlL.get : ∀ {σ : L2.St} {ρ : List Sl} {i : Nat} {x : Sl}, SlL K c I H σ ρ → ρ[i]? = some x → ∃ v, σ[i]? = some v ∧ SlOk K c I H v x
  | _, _, _, _, .nil, e => by simp at e
  | _, _, 0, _, .cons a _, e => by simp at e; subst e; exact ⟨_, rfl, a⟩
  | _, _, i + 1, x, .cons _ r, e => by
    obtain ⟨v, h1, h2⟩ := SlL.get (i := i) (x := x) r (by simpa using e)
    exact ⟨v, by simpa using h1, h2⟩
theorem SlL.set {v : Option V} {x : Sl} (h : SlOk K c I H v x) : ∀ {σ : L2.St} {ρ : List Sl} (i : Nat), SlL K c I H σ ρ → SlL K c I H (σ.set i v) (ρ.set i x)
  | _, _, _, .nil => .nil
  | _, _, 0, .cons _ r => .cons h r
  | _, _, i + 1, .cons a r => .cons a (SlL.set h i r)
theorem Ec.grow {σ : L2.St} {ρ : List Sl} (e : Ec K c I H σ ρ s) (g : Gr c I H I' H') (w : DW K c s1 I' H') : Ec K c I' H' σ ρ s1 := ⟨g.s2, w, e.sl.grow g, e.uq⟩
theorem Ec.imm {σ : L2.St} {ρ : List Sl} {i : Nat} {d : D} (e : Ec K c I H σ ρ s) (h : ρ[i]? = some (.im d)) : ∃ v, σ[i]? = some (some v) ∧ Rep K c I v d := by
  obtain ⟨v, h1, h2⟩ := e.sl.get h
  cases h2 with
  | im r => exact ⟨_, h1, r⟩
/-- a slot gets an unowned value -/
theorem Uq.setI {σ : L2.St} {ρ : List Sl} (h : Uq σ ρ) {i : Nat} {v : Option V} {x : Sl} (hx : ∀ d, x ≠ .ow d) : Uq (σ.set i v) (ρ.set i x) := fun k j p d e hne h1 h2 h3 h4 => by
  have ne : ∀ (m : Nat) (d : D), (ρ.set i x)[m]? = some (.ow d) → m ≠ i := fun m d q z => by
    subst z
    rw [List.getElem?_set] at q
    simp only [if_true] at q
    split at q
    · exact hx _ (Option.some.inj q)
    · cases q
  have n1 := ne _ _ h3
  have n2 := ne _ _ h4
  rw [List.getElem?_set_ne (Ne.symm n1)] at h1 h3
  rw [List.getElem?_set_ne (Ne.symm n2)] at h2 h4
  exact h k j p d e hne h1 h2 h3 h4
theorem Ec.setI {σ : L2.St} {ρ : List Sl} {v : V} {d : D} (e : Ec K c I H σ ρ s) (r : Rep K c I v d) (i : Nat) : Ec K c I H (σ.set i (some v)) (ρ.set i (.im d)) s :=
  ⟨e.sub, e.w, .set (.im r) i e.sl, e.uq.setI fun _ z => by cases z⟩
end

/-! what an expression means -/
abbrev Dn := List Sl → Tau → Option (D × Tau)
abbrev Dt := List Sl → Tau → Option (Bool × Tau)
abbrev Da := List Sl → Tau → Option (List D × Tau)
abbrev Do := List Sl → Tau → Option (Option Int × Tau)
def SndE (K : Kx) (te : TE) (dn : Dn) : Prop := ∀ c I H σ ρ s d s', Ec K c I H σ ρ s → dn ρ s = some (d, s') →
  ∀ Q : VK, (∀ v I' H', Gr c I H I' H' → DW K c s' I' H' → Rep K c I' v d → Q v H') → te σ H Q
def SndT (K : Kx) (te : TT) (dn : Dt) : Prop := ∀ c I H σ ρ s b s', Ec K c I H σ ρ s → dn ρ s = some (b, s') →
  ∀ Q : Bool → Hp → Prop, (∀ I' H', Gr c I H I' H' → DW K c s' I' H' → Q b H') → te σ H Q
def SndA (K : Kx) (te : TA) (dn : Da) : Prop := ∀ c I H σ ρ s ds s', Ec K c I H σ ρ s → dn ρ s = some (ds, s') →
  ∀ Q : List V → Hp → Prop, (∀ vs I' H', Gr c I H I' H' → DW K c s' I' H' → RepL K c I' vs ds → Q vs H') → te σ H Q
def SndO (K : Kx) (te : TO) (dn : Do) : Prop := ∀ c I H σ ρ s o s', Ec K c I H σ ρ s → dn ρ s = some (o, s') →
  ∀ Q : Option Int → Hp → Prop, (∀ I' H', Gr c I H I' H' → DW K c s' I' H' → Q o H') → te σ H Q
structure EE (X : Cx) (e : Expr) (te : TE) (dn : Dn) : Prop where
  p : PE X e te
  s : SndE X.kx te dn
structure ET (X : Cx) (e : Expr) (te : TT) (dn : Dt) : Prop where
  p : PT X e te
  s : SndT X.kx te dn
structure EA (X : Cx) (es : List Expr) (te : TA) (dn : Da) : Prop where
  p : PA X es te
  s : SndA X.kx te dn
structure EO (X : Cx) (e : Option Expr) (te : TO) (dn : Do) : Prop where
  p : PO X e te
  s : SndO X.kx te dn

/-- operations on data; nothing but new objects comes of them -/
def RQ (K : Kx) (c : Option Addr) (I H : Hp) (z : D) (Q : VK) : Prop := ∀ v I' H', Gr none I H I' H' → Rep K c I' v z → Q v H'
def Snd1 (K : Kx) (r : V → Hp → VK → Prop) (f : D → Option D) : Prop := ∀ c I H x d z, Sub I H → Rep K c I x d → f d = some z → ∀ Q, RQ K c I H z Q → r x H Q
def Snd2 (K : Kx) (r : R2) (f : D → D → Option D) : Prop := ∀ c I H x y d e z, Sub I H → Rep K c I x d → Rep K c I y e → f d e = some z → ∀ Q, RQ K c I H z Q → r x y H Q
def SndL (K : Kx) (r : List V → Hp → VK → Prop) (f : List D → Option D) : Prop := ∀ c I H xs ds z, Sub I H → RepL K c I xs ds → f ds = some z → ∀ Q, RQ K c I H z Q → r xs H Q
def SndM (K : Kx) (r : V → List V → Hp → VK → Prop) (f : D → List D → Option D) : Prop := ∀ c I H x d xs ds z, Sub I H → Rep K c I x d → RepL K c I xs ds → f d ds = some z → ∀ Q, RQ K c I H z Q → r x xs H Q
/-- the value itself, no new object -/
theorem RQ.val {K : Kx} {c : Option Addr} {I H : Hp} {z : D} {Q : VK} {v : V} (q : RQ K c I H z Q) (s : Sub I H) (r : Rep K c I v z) : Q v H := q v I H (.refl s) r
theorem RQ.tup {K : Kx} {c : Option Addr} {I H : Hp} {ds : List D} {vs : List V} {Q : VK} {p : Addr} {o : Obj} (q : RQ K c I H (.tup ds) Q) (s : Sub I H) (h : H p = none) (ho : TupO o) (r : RepL K c I vs ds) : Q (.ref p) (upd H p (.frz o (.tup vs))) :=
  q _ _ _ (.new s h) (.tup upd_same ho (r.mono (Gr.new (o := .frz o (.tup vs)) s h).s1))
theorem RQ.ktp {K : Kx} {c : Option Addr} {I H : Hp} {ds : List D} {vs : List V} {Q : VK} {p : Addr} (q : RQ K c I H (.ktp ds) Q) (s : Sub I H) (h : H p = none) (r : RepL K c I vs ds) : Q (.ref p) (upd H p (.tup vs)) :=
  q _ _ _ (.new s h) (.ktp (.of upd_same) (r.mono (Gr.new (o := .tup vs) s h).s1))
theorem RQ.lst {K : Kx} {c : Option Addr} {I H : Hp} {ds : List D} {vs : List V} {Q : VK} {p : Addr} (q : RQ K c I H (.lst ds) Q) (s : Sub I H) (h : H p = none) (r : RepL K c I vs ds) : Q (.ref p) (upd H p (.lst vs)) :=
  q _ _ _ (.new s h) (.lst upd_same (r.mono (Gr.new (o := .lst vs) s h).s1))

/-! the pieces -/
/-- a written tuple, its object known to bear nothing -/
def tTupF (t : TA) : TE := fun σ H Q => t σ H fun xs H1 => xs.length ≤ sizeLine ∧ ∀ (p : Addr) (o : Obj), H1 p = none → TupO o → Q (.ref p) (upd H1 p (.frz o (.tup xs)))
theorem pe_tupF {X : Cx} {es : List Expr} {k : Nat} {pos : Pos} {t : TA} (h : PA X es t) : PE X (.Tuple es k pos) (tTupF t) := by
  refine ⟨fun pins s σ H Q I hq => wpAny_Tuple_spliced (thn (h.run pos pins s σ H _ I hq) fun us s1 z => ?_)⟩
  obtain ⟨xs, H1, I1, r, z, q⟩ := z
  refine ⟨by rw [← r.length]; exact z, ?_⟩
  have hg : (s1.heap.push { cls := .type "tuple", data := .seq us.toArray }).get? s1.heap.objs.size = some { cls := .type "tuple", data := .seq us.toArray } := Heap.get?_push_size _ rfl
  have J : Inv X pins σ (upd H1 s1.heap.objs.size (.frz { cls := .type "tuple", data := .seq us.toArray } (.tup xs))) { s1 with heap := s1.heap.push { cls := .type "tuple", data := .seq us.toArray }, toks := s1.toks } :=
    I1.laid (t' := s1.toks) (fun _ _ e => Heap.get?_push_of_some _ e) (Nat.le_refl _) ⟨hg, z, us, r, _, hg, rfl, _, rfl⟩
  exact ⟨.ref _, _, J, rfl, q _ _ (I1.hok.fresh (Nat.le_refl _)) ⟨rfl, rfl⟩⟩
/-- tuple(a list or a tuple) -/
def rTupOf (K : Kx) : List V → Hp → VK → Prop := fun xs H Q => ∃ p ys, xs = [.ref p] ∧ ((SqL K H p ys ∧ ∀ (l : Addr) (o : Obj), H l = none → TupO o → Q (.ref l) (upd H l (.frz o (.tup ys)))) ∨ (SqT K H p ys ∧ Q (.ref p) H))
theorem call_tupF {X : Cx} : CallR X (.type "tuple") (rTupOf X.kx) := by
  intro pins s σ H xs us Q I r h
  obtain ⟨p, ys, rfl, h⟩ := h
  rcases h with ⟨hq, q⟩ | ⟨hq, q⟩
  · obtain ⟨u, rfl, rx⟩ := vals1 r
    obtain rfl : u = Value.ref p := rx
    obtain ⟨its, r', pl, hz⟩ := I.list hq
    have hlen := r'.length
    refine call_tuple_list pl.isList (fun h' kp => ?_) (by rw [List.size_toArray]; omega)
    have J : Inv X pins σ H { s with heap := h' } := I.kept (t' := s.toks) kp
    have hg : (h'.push { cls := .type "tuple", data := .seq its.toArray }).get? h'.objs.size = some { cls := .type "tuple", data := .seq its.toArray } := Heap.get?_push_size _ rfl
    have J2 : Inv X pins σ (upd H h'.objs.size (.frz { cls := .type "tuple", data := .seq its.toArray } (.tup ys))) { s with heap := h'.push { cls := .type "tuple", data := .seq its.toArray } } :=
      J.laid (t' := s.toks) (fun _ _ e => Heap.get?_push_of_some _ e) (Nat.le_refl _) ⟨hg, hz, its, r', _, hg, rfl, _, rfl⟩
    exact ⟨.ref _, _, J2, rfl, q _ _ (J.hok.fresh (Nat.le_refl _)) ⟨rfl, rfl⟩⟩
  · exact call_tuple_of pins s σ H _ us Q I r ⟨p, ys, rfl, .inr ⟨hq, q⟩⟩
/-- t.count(x), t a tuple whose object bears nothing -/
def tTCount (to te : TE) : TE := fun σ H Q => to σ H fun x H1 => ∃ (p : Addr) (o : Obj) (ys : List V), x = .ref p ∧ H1 p = some (.frz o (.tup ys)) ∧ TupO o ∧
  te σ H1 fun y H2 => H2 p = some (.frz o (.tup ys)) ∧ flatV y = true ∧ ys.all flatV = true ∧ Q (.int ((ys.countP fun z => eqV z y : Nat) : Int)) H2
theorem countP_eqU {x : V} : ∀ {xs : List V} {us : List Value}, Vals xs us → xs.all flatV = true → us.countP (eqU x) = xs.countP fun y => eqV y x
  | _, _, .nil, _ => rfl
  | y :: xs, u :: us, .cons r t, f => by
    rw [List.all_cons, Bool.and_eq_true] at f
    rw [List.countP_cons, List.countP_cons, eqU_of r f.1, countP_eqU t f.2]
theorem pe_tcount {X : Cx} {o e : Expr} {to te : TE} {apos cpos : Pos} (ho : PE X o to) (he : PE X e te) (hbase : attributeBase o "count" X.env (eval o X.env) = eval o X.env := by rfl) (hline : (apos.endLine == cpos.line) = true := by rfl)
    (hs : starEach [e] X.env = [(false, eval e X.env)] := by rfl) : PE X (.Call (.Attribute o "count" apos) [e] [] cpos) (tTCount to te) := by
  refine ⟨fun pins s σ H Q I h => wpAny_Call_method1_late hbase hline (by rw [hs]; rfl) (thn (ho.run pins s σ H _ I h) fun v s1 z => ?_)⟩
  obtain ⟨x, H1, I1, rx, p, ob, ys, rfl, hp, hto, hq⟩ := z
  obtain rfl : v = Value.ref p := rx
  have hg : s1.heap.get? p = some ob := (I1.hok p _ hp).1
  refine ⟨"tuple", "tuple.count", PySem.F.plainAttrs_tuple, PySem.F.slot_tuple_count, PySem.F.type_tuple_count, ⟨ob, hg, hto.1⟩, fun a ea => ?_, ?_⟩
  · cases ea
    exact ⟨ob, hg, hto.2⟩
  refine Calls.callWith_builtin rfl (Calls.evalArgs_plain ?_)
  refine Calls.spliced_cons (thn (he.run pins s1 σ H1 _ I1 hq) fun u s2 z => Calls.spliced_nil ?_)
  obtain ⟨y, H2, I2, ry, hp2, fy, fs, q⟩ := z
  obtain ⟨hg2, hz, its, r, hit⟩ := I2.hok p _ hp2
  obtain ⟨o2, h1, h2, n, h3⟩ := hit
  rw [hg2] at h1
  cases h1
  obtain ⟨cls, dd, dt, sl⟩ := ob
  simp only at h2 h3
  subst h2
  subst h3
  refine call_meets PySem.F.slot_tuple_count ⟨_, hg2, rfl⟩ PySem.F.entry_tuple_count (PySem.F.args_tuple_count_2 _ _) (SeqAt.tuple_countAt p its.toArray n dd sl u (eqU y)) ⟨hg2, fun w hw => mem_eqAt ry fy r fs w (by simpa using hw), ?_⟩
  rw [show its.toArray.toList = its from rfl, countP_eqU r fs]
  exact ⟨.int _, H2, I2.tok _, ⟨_, rfl⟩, q⟩

def dVar (i : Nat) : Dn := fun ρ s => match ρ[i]? with
  | some (.im d) => some (d, s)
  | _ => none
def dC (d : D) : Dn := fun _ s => some (d, s)
def dOp (f : D → D → Option D) (da db : Dn) : Dn := fun ρ s => (da ρ s).bind fun p => (db ρ p.2).bind fun q => (f p.1 q.1).map fun z => (z, q.2)
def dUn (f : D → Option D) (da : Dn) : Dn := fun ρ s => (da ρ s).bind fun p => (f p.1).map fun z => (z, p.2)
def dCallB (f : List D → Option D) (da : Da) : Dn := fun ρ s => (da ρ s).bind fun p => (f p.1).map fun z => (z, p.2)
def dMeth (f : D → List D → Option D) (dx : Dn) (da : Da) : Dn := fun ρ s => (dx ρ s).bind fun p => (da ρ p.2).bind fun q => (f p.1 q.1).map fun z => (z, q.2)
def dNil : Da := fun _ s => some ([], s)
def dCons (da : Dn) (dr : Da) : Da := fun ρ s => (da ρ s).bind fun p => (dr ρ p.2).map fun q => (p.1 :: q.1, q.2)
/-- the items of a list or tuple -/
def D.its : D → Option (List D)
  | .tup xs => some xs
  | .ktp xs => some xs
  | .lst xs => some xs
  | _ => none
theorem _root_.Dl.Rep.its {K : Kx} {c : Option Addr} {I : Hp} {v : V} {d : D} {ds : List D} (h : Rep K c I v d) (e : d.its = some ds) : ∃ a xs, v = .ref a ∧ (SqT K I a xs ∨ SqL K I a xs) ∧ RepL K c I xs ds := by
  cases h with
  | tup h _ r => cases e; exact ⟨_, _, rfl, .inl (.inl (.inr ⟨_, h⟩)), r⟩
  | ktp h r => cases e; exact ⟨_, _, rfl, .inl h, r⟩
  | lst h r => cases e; exact ⟨_, _, rfl, .inr (.of h), r⟩
  | _ => cases e
def dStar (da : Dn) (dr : Da) : Da := fun ρ s => (da ρ s).bind fun p => p.1.its.bind fun ds => (dr ρ p.2).map fun q => (ds ++ q.1, q.2)
def dTup (da : Da) : Dn := fun ρ s => (da ρ s).bind fun p => if p.1.length ≤ 1000000 then some (.tup p.1, p.2) else none
def dLst (da : Da) : Dn := fun ρ s => (da ρ s).bind fun p => if p.1.length ≤ 1000000 then some (.lst p.1, p.2) else none
def dB (da : Dn) : Dt := fun ρ s => (da ρ s).bind fun p => match p.1 with
  | .bl b => some (b, p.2)
  | _ => none
def dAnd (a b : Dt) : Dt := fun ρ s => (a ρ s).bind fun p => if p.1 = true then b ρ p.2 else some (false, p.2)
def dOr (a b : Dt) : Dt := fun ρ s => (a ρ s).bind fun p => if p.1 = true then some (true, p.2) else b ρ p.2
def dNot (a : Dt) : Dt := fun ρ s => (a ρ s).map fun p => (!p.1, p.2)
def dAndV (a b : Dn) : Dn := fun ρ s => (a ρ s).bind fun p => match p.1 with
  | .bl true => b ρ p.2
  | .bl false => some (.bl false, p.2)
  | _ => none
def dOrV (a b : Dn) : Dn := fun ρ s => (a ρ s).bind fun p => match p.1 with
  | .bl true => some (.bl true, p.2)
  | .bl false => b ρ p.2
  | _ => none
def dNotV (a : Dn) : Dn := fun ρ s => (a ρ s).bind fun p => match p.1 with
  | .bl b => some (.bl (!b), p.2)
  | _ => none
def dIf (t : Dt) (a b : Dn) : Dn := fun ρ s => (t ρ s).bind fun p => if p.1 = true then a ρ p.2 else b ρ p.2
def dChain (f g : D → D → Option D) (da db dc : Dn) : Dn := fun ρ s => (da ρ s).bind fun p => (db ρ p.2).bind fun q => (f p.1 q.1).bind fun z => match z with
  | .bl true => (dc ρ q.2).bind fun r => (g q.1 r.1).map fun z => (z, r.2)
  | .bl false => some (.bl false, q.2)
  | _ => none
def dNone : Do := fun _ s => some (none, s)
def dSome (da : Dn) : Do := fun ρ s => (da ρ s).bind fun p => match p.1 with
  | .int i => some (some i, p.2)
  | _ => none
def dSl (f : D → Option Int → Option Int → Option D) (da : Dn) (dl dh : Do) : Dn := fun ρ s => (da ρ s).bind fun p => (dl ρ p.2).bind fun l => (dh ρ l.2).bind fun h => (f p.1 l.1 h.1).map fun z => (z, h.2)
def SndSl (K : Kx) (r : V → Option Int → Option Int → Hp → VK → Prop) (f : D → Option Int → Option Int → Option D) : Prop := ∀ c I H x d lo hi z, Sub I H → Rep K c I x d → f d lo hi = some z → ∀ Q, RQ K c I H z Q → r x lo hi H Q

theorem bind_some_of {α β : Type} {o : Option α} {f : α → Option β} {z : β} (h : o.bind f = some z) : ∃ x, o = some x ∧ f x = some z := by
  cases o with
  | none => cases h
  | some x => exact ⟨x, rfl, h⟩
theorem map_some_of {α β : Type} {o : Option α} {f : α → β} {z : β} (h : o.map f = some z) : ∃ x, o = some x ∧ f x = z := by
  cases o with
  | none => cases h
  | some x => exact ⟨x, rfl, Option.some.inj h⟩

section
variable {K : Kx} {ta tb tc : TE} {da db dc : Dn} {tA tB' : TT} {bA bB : Dt} {tx : TA} {ax : Da}
theorem sn_var (i : Nat) : SndE K (tVar i) (dVar i) := fun c I H σ ρ s d s' e h Q q => by
  unfold dVar at h
  split at h
  · rename_i d' hd
    cases h
    obtain ⟨v, h1, r⟩ := e.imm hd
    exact ⟨v, h1, q v I H (.refl e.sub) e.w r⟩
  · cases h
theorem sn_c {v : V} {d : D} (r : ∀ c I, Rep K c I v d) : SndE K (tC v) (dC d) := fun c I H σ ρ s d' s' e h Q q => by
  cases h
  exact q v I H (.refl e.sub) e.w (r c I)
theorem sn_op {r : R2} {f : D → D → Option D} (ha : SndE K ta da) (hb : SndE K tb db) (hr : Snd2 K r f) : SndE K (tOp r ta tb) (dOp f da db) := fun c I H σ ρ s d s' e h Q q => by
  obtain ⟨⟨x, s1⟩, h1, h⟩ := bind_some_of h
  obtain ⟨⟨y, s2⟩, h2, h⟩ := bind_some_of h
  obtain ⟨z, h3, h⟩ := map_some_of h
  cases h
  refine ha _ _ _ _ _ _ _ _ e h1 _ fun v I1 H1 g1 w1 r1 => ?_
  refine hb _ _ _ _ _ _ _ _ (e.grow g1 w1) h2 _ fun u I2 H2 g2 w2 r2 => ?_
  refine hr _ _ _ _ _ _ _ _ g2.s2 (r1.mono g2.s1) r2 h3 _ fun t I3 H3 g3 r3 => ?_
  exact q t I3 H3 ((g1.tr w1 g2).tr w2 g3.up) (w2.gr g3) r3
theorem sn_un {r : V → Hp → VK → Prop} {f : D → Option D} (ha : SndE K ta da) (hr : Snd1 K r f) : SndE K (fun σ H Q => ta σ H fun x H1 => r x H1 Q) (dUn f da) := fun c I H σ ρ s d s' e h Q q => by
  obtain ⟨⟨x, s1⟩, h1, h⟩ := bind_some_of h
  obtain ⟨z, h3, h⟩ := map_some_of h
  cases h
  refine ha _ _ _ _ _ _ _ _ e h1 _ fun v I1 H1 g1 w1 r1 => ?_
  refine hr _ _ _ _ _ _ g1.s2 r1 h3 _ fun t I3 H3 g3 r3 => ?_
  exact q t I3 H3 (g1.tr w1 g3.up) (w1.gr g3) r3
theorem sn_callB {r : List V → Hp → VK → Prop} {f : List D → Option D} (ha : SndA K tx ax) (hr : SndL K r f) : SndE K (tCB r tx) (dCallB f ax) := fun c I H σ ρ s d s' e h Q q => by
  obtain ⟨⟨x, s1⟩, h1, h⟩ := bind_some_of h
  obtain ⟨z, h3, h⟩ := map_some_of h
  cases h
  refine ha _ _ _ _ _ _ _ _ e h1 _ fun v I1 H1 g1 w1 r1 => ?_
  refine hr _ _ _ _ _ _ g1.s2 r1 h3 _ fun t I3 H3 g3 r3 => ?_
  exact q t I3 H3 (g1.tr w1 g3.up) (w1.gr g3) r3
theorem sn_nil : SndA K tNil dNil := fun c I H σ ρ s d s' e h Q q => by
  cases h
  exact q [] I H (.refl e.sub) e.w .nil
theorem sn_cons (ha : SndE K ta da) (hx : SndA K tx ax) : SndA K (tCons ta tx) (dCons da ax) := fun c I H σ ρ s d s' e h Q q => by
  obtain ⟨⟨x, s1⟩, h1, h⟩ := bind_some_of h
  obtain ⟨⟨y, s2⟩, h2, h⟩ := map_some_of h
  cases h
  refine ha _ _ _ _ _ _ _ _ e h1 _ fun v I1 H1 g1 w1 r1 => ?_
  refine hx _ _ _ _ _ _ _ _ (e.grow g1 w1) h2 _ fun u I2 H2 g2 w2 r2 => ?_
  exact q _ I2 H2 (g1.tr w1 g2) w2 (.cons (r1.mono g2.s1) r2)
theorem sn_star (ha : SndE K ta da) (hx : SndA K tx ax) : SndA K (tStar K ta tx) (dStar da ax) := fun c I H σ ρ s d s' e h Q q => by
  obtain ⟨⟨x, s1⟩, h1, h⟩ := bind_some_of h
  obtain ⟨ds, hi, h⟩ := bind_some_of h
  obtain ⟨⟨y, s2⟩, h2, h⟩ := map_some_of h
  cases h
  refine ha _ _ _ _ _ _ _ _ e h1 _ fun v I1 H1 g1 w1 r1 => ?_
  obtain ⟨a, xs, rfl, hs, hr⟩ := r1.its hi
  refine ⟨a, xs, rfl, hs.elim (fun z => .inl (g1.s2.sqT z)) (fun z => .inr (g1.s2.sqL z)), ?_⟩
  refine hx _ _ _ _ _ _ _ _ (e.grow g1 w1) h2 _ fun u I2 H2 g2 w2 r2 => ?_
  exact q _ I2 H2 (g1.tr w1 g2) w2 ((hr.mono g2.s1).app r2)
theorem mil {n : Nat} (h : n ≤ 1000000) : n ≤ sizeLine := Nat.le_trans h (by decide)
theorem sn_tup (hx : SndA K tx ax) : SndE K (tTupF tx) (dTup ax) := fun c I H σ ρ s d s' e h Q q => by
  obtain ⟨⟨x, s1⟩, h1, h⟩ := bind_some_of h
  split at h
  · rename_i hl
    cases h
    refine hx _ _ _ _ _ _ _ _ e h1 _ fun vs I1 H1 g1 w1 r1 => ⟨mil (by rw [r1.length]; exact hl), fun p o hp ho => ?_⟩
    have g := Gr.new (o := .frz o (.tup vs)) g1.s2 hp
    exact q _ _ _ (g1.tr w1 g.up) (w1.gr g) (.tup upd_same ho (r1.mono g.s1))
  · cases h
theorem sn_lst (hx : SndA K tx ax) : SndE K (tLst tx) (dLst ax) := fun c I H σ ρ s d s' e h Q q => by
  obtain ⟨⟨x, s1⟩, h1, h⟩ := bind_some_of h
  split at h
  · rename_i hl
    cases h
    refine hx _ _ _ _ _ _ _ _ e h1 _ fun vs I1 H1 g1 w1 r1 => ⟨mil (by rw [r1.length]; exact hl), fun p hp => ?_⟩
    have g := Gr.new (o := .lst vs) g1.s2 hp
    exact q _ _ _ (g1.tr w1 g.up) (w1.gr g) (.lst upd_same (r1.mono g.s1))
  · cases h
theorem sn_B (ha : SndE K ta da) : SndT K (tB ta) (dB da) := fun c I H σ ρ s b s' e h Q q => by
  obtain ⟨⟨x, s1⟩, h1, h⟩ := bind_some_of h
  refine ha _ _ _ _ _ _ _ _ e h1 _ fun v I1 H1 g1 w1 r1 => ?_
  cases r1 with
  | bl k => cases h; exact ⟨_, rfl, q _ _ g1 w1⟩
  | _ => cases h
theorem sn_test (ha : SndE K ta da) : SndT K (tTest ta) (dB da) := fun c I H σ ρ s b s' e h Q q => by
  obtain ⟨⟨x, s1⟩, h1, h⟩ := bind_some_of h
  refine ha _ _ _ _ _ _ _ _ e h1 _ fun v I1 H1 g1 w1 r1 => ?_
  cases r1 with
  | bl k => cases h; exact ⟨_, rfl, q _ _ g1 w1⟩
  | _ => cases h
theorem sn_and (ha : SndT K tA bA) (hb : SndT K tB' bB) : SndT K (tAnd tA tB') (dAnd bA bB) := fun c I H σ ρ s b s' e h Q q => by
  obtain ⟨⟨x, s1⟩, h1, h⟩ := bind_some_of h
  refine ha _ _ _ _ _ _ _ _ e h1 _ fun I1 H1 g1 w1 => ?_
  cases x with
  | true => exact hb _ _ _ _ _ _ _ _ (e.grow g1 w1) h _ fun I2 H2 g2 w2 => q _ _ (g1.tr w1 g2) w2
  | false => cases h; exact q _ _ g1 w1
theorem sn_or (ha : SndT K tA bA) (hb : SndT K tB' bB) : SndT K (tOr tA tB') (dOr bA bB) := fun c I H σ ρ s b s' e h Q q => by
  obtain ⟨⟨x, s1⟩, h1, h⟩ := bind_some_of h
  refine ha _ _ _ _ _ _ _ _ e h1 _ fun I1 H1 g1 w1 => ?_
  cases x with
  | true => cases h; exact q _ _ g1 w1
  | false => exact hb _ _ _ _ _ _ _ _ (e.grow g1 w1) h _ fun I2 H2 g2 w2 => q _ _ (g1.tr w1 g2) w2
theorem sn_not (ha : SndT K tA bA) : SndT K (tNot tA) (dNot bA) := fun c I H σ ρ s b s' e h Q q => by
  obtain ⟨⟨x, s1⟩, h1, h⟩ := map_some_of h
  cases h
  exact ha _ _ _ _ _ _ _ _ e h1 _ fun I1 H1 g1 w1 => q _ _ g1 w1
theorem sn_andV (ha : SndE K ta da) (hb : SndE K tb db) : SndE K (tAndV ta tb) (dAndV da db) := fun c I H σ ρ s b s' e h Q q => by
  obtain ⟨⟨x, s1⟩, h1, h⟩ := bind_some_of h
  refine ha _ _ _ _ _ _ _ _ e h1 _ fun v I1 H1 g1 w1 r1 => ?_
  cases r1 with
  | bl k =>
    cases k with
    | true => exact ⟨_, rfl, hb _ _ _ _ _ _ _ _ (e.grow g1 w1) h _ fun v I2 H2 g2 w2 r2 => q _ _ _ (g1.tr w1 g2) w2 r2⟩
    | false => cases h; exact ⟨_, rfl, q _ _ _ g1 w1 (.bl _)⟩
  | _ => cases h
theorem sn_orV (ha : SndE K ta da) (hb : SndE K tb db) : SndE K (tOrV ta tb) (dOrV da db) := fun c I H σ ρ s b s' e h Q q => by
  obtain ⟨⟨x, s1⟩, h1, h⟩ := bind_some_of h
  refine ha _ _ _ _ _ _ _ _ e h1 _ fun v I1 H1 g1 w1 r1 => ?_
  cases r1 with
  | bl k =>
    cases k with
    | false => exact ⟨_, rfl, hb _ _ _ _ _ _ _ _ (e.grow g1 w1) h _ fun v I2 H2 g2 w2 r2 => q _ _ _ (g1.tr w1 g2) w2 r2⟩
    | true => cases h; exact ⟨_, rfl, q _ _ _ g1 w1 (.bl _)⟩
  | _ => cases h
theorem sn_notV (ha : SndE K ta da) : SndE K (tNotV ta) (dNotV da) := fun c I H σ ρ s b s' e h Q q => by
  obtain ⟨⟨x, s1⟩, h1, h⟩ := bind_some_of h
  refine ha _ _ _ _ _ _ _ _ e h1 _ fun v I1 H1 g1 w1 r1 => ?_
  cases r1 with
  | bl k => cases h; exact ⟨_, rfl, q _ _ _ g1 w1 (.bl _)⟩
  | _ => cases h
theorem sn_if (ht : SndT K tA bA) (ha : SndE K ta da) (hb : SndE K tb db) : SndE K (tIf tA ta tb) (dIf bA da db) := fun c I H σ ρ s b s' e h Q q => by
  obtain ⟨⟨x, s1⟩, h1, h⟩ := bind_some_of h
  refine ht _ _ _ _ _ _ _ _ e h1 _ fun I1 H1 g1 w1 => ?_
  cases x with
  | true => exact ha _ _ _ _ _ _ _ _ (e.grow g1 w1) h _ fun v I2 H2 g2 w2 r2 => q _ _ _ (g1.tr w1 g2) w2 r2
  | false => exact hb _ _ _ _ _ _ _ _ (e.grow g1 w1) h _ fun v I2 H2 g2 w2 r2 => q _ _ _ (g1.tr w1 g2) w2 r2
theorem sn_chain {r r' : R2} {f g : D → D → Option D} (ha : SndE K ta da) (hb : SndE K tb db) (hc : SndE K tc dc) (hr : Snd2 K r f) (hr' : Snd2 K r' g) : SndE K (tChain r r' ta tb tc) (dChain f g da db dc) := fun c I H σ ρ s d s' e h Q q => by
  obtain ⟨⟨x, s1⟩, h1, h⟩ := bind_some_of h
  obtain ⟨⟨y, s2⟩, h2, h⟩ := bind_some_of h
  obtain ⟨z, h3, h⟩ := bind_some_of h
  refine ha _ _ _ _ _ _ _ _ e h1 _ fun v I1 H1 g1 w1 r1 => ?_
  refine hb _ _ _ _ _ _ _ _ (e.grow g1 w1) h2 _ fun u I2 H2 g2 w2 r2 => ?_
  refine hr _ _ _ _ _ _ _ _ g2.s2 (r1.mono g2.s1) r2 h3 _ fun t I3 H3 g3 r3 => ?_
  have gg := (g1.tr w1 g2).tr w2 (g3.up (c := c))
  have w3 := w2.gr g3
  cases r3 with
  | bl k =>
    cases k with
    | true =>
      obtain ⟨⟨y3, s3⟩, h4, h⟩ := bind_some_of h
      obtain ⟨z, h5, h⟩ := map_some_of h
      cases h
      refine ⟨_, rfl, ?_⟩
      refine hc _ _ _ _ _ _ _ _ (e.grow gg w3) h4 _ fun u I4 H4 g4 w4 r4 => ?_
      refine hr' _ _ _ _ _ _ _ _ g4.s2 ((r2.mono g3.s1).mono g4.s1) r4 h5 _ fun t I5 H5 g5 r5 => ?_
      exact q t I5 H5 ((gg.tr w3 g4).tr w4 g5.up) (w4.gr g5) r5
    | false => cases h; exact ⟨_, rfl, q _ _ _ gg w3 (.bl _)⟩
  | _ => cases h
theorem sn_part (ha : SndE K ta da) : SndO K (tPart ta) (dSome da) := fun c I H σ ρ s d s' e h Q q => by
  obtain ⟨⟨x, s1⟩, h1, h⟩ := bind_some_of h
  refine ha _ _ _ _ _ _ _ _ e h1 _ fun v I1 H1 g1 w1 r1 => ?_
  cases r1 with
  | int k => cases h; exact ⟨_, rfl, q _ _ g1 w1⟩
  | _ => cases h
theorem sn_nopart : SndO K tNoPart dNone := fun c I H σ ρ s d s' e h Q q => by
  cases h
  exact q _ _ (.refl e.sub) e.w
theorem sn_sl {r : V → Option Int → Option Int → Hp → VK → Prop} {f : D → Option Int → Option Int → Option D} {tl th : TO} {dl dh : Do} (ha : SndE K ta da) (hl : SndO K tl dl) (hh : SndO K th dh) (hr : SndSl K r f) : SndE K (tSl r ta tl th) (dSl f da dl dh) := fun c I H σ ρ s d s' e h Q q => by
  obtain ⟨⟨x, s1⟩, h1, h⟩ := bind_some_of h
  obtain ⟨⟨l, s2⟩, h2, h⟩ := bind_some_of h
  obtain ⟨⟨u, s3⟩, h3, h⟩ := bind_some_of h
  obtain ⟨z, h4, h⟩ := map_some_of h
  cases h
  refine ha _ _ _ _ _ _ _ _ e h1 _ fun v I1 H1 g1 w1 r1 => ?_
  refine hl _ _ _ _ _ _ _ _ (e.grow g1 w1) h2 _ fun I2 H2 g2 w2 => ?_
  have g12 := g1.tr w1 g2
  refine hh _ _ _ _ _ _ _ _ (e.grow g12 w2) h3 _ fun I3 H3 g3 w3 => ?_
  refine hr _ _ _ _ _ _ _ _ g3.s2 ((r1.mono g2.s1).mono g3.s1) h4 _ fun t I5 H5 g5 r5 => ?_
  exact q t I5 H5 ((g12.tr w2 g3).tr w3 g5.up) (w3.gr g5) r5
end
end Dl
end
section
set_option Elab.async false
set_option linter.all false
set_option maxRecDepth 100000
set_option maxHeartbeats 4000000
namespace Dl
open PySem PySem.Spec PyProof.Rows L2 StX

/-! statements -/
inductive Rs where
  | nx (ρ : List Sl) | rt (d : D) (own : Bool) | bk (ρ : List Sl) | ct (ρ : List Sl)
abbrev Ds := List Sl → Tau → Option (Rs × Tau)
structure EnvS (K : Kx) (c : Option Addr) (I0 H0 I H : Hp) (σ : L2.St) (ρ : List Sl) (s : Tau) : Prop where
  env : Ec K c I H σ ρ s
  s0 : Sb I0 I
  kp : Kp c H0 H
  nw : ∀ a, I a ≠ none → I0 a ≠ none ∨ H0 a = none
  fr : ∀ (i : Nat) (p : Addr) (d : D), σ[i]? = some (some (V.ref p)) → ρ[i]? = some (Sl.ow d) → H0 p = none
  nc : ∀ r, c = some r → H0 r ≠ none
section
variable {K : Kx} {c : Option Addr} {I0 H0 I H I' H' I1 H1 : Hp} {σ : L2.St} {ρ : List Sl} {s s1 : Tau}
theorem EnvS.old (e : EnvS K c I0 H0 I H σ ρ s) {a : Addr} (h : H a = none) : H0 a = none := by
  cases q : H0 a with
  | none => rfl
  | some o =>
    by_cases z : c = some a
    · obtain ⟨_, sc, w, _⟩ := e.env.w a z
      rw [h] at w; cases w
    · rw [e.kp a o z q] at h; cases h
theorem EnvS.grow (e : EnvS K c I0 H0 I H σ ρ s) (g : Gr c I H I' H') (w : DW K c s1 I' H') : EnvS K c I0 H0 I' H' σ ρ s1 :=
  ⟨e.env.grow g w, e.s0.trans g.s1, e.kp.trans g.kp, fun a h => by
    rcases g.nw a h with z | z
    · exact e.nw a z
    · exact .inr (e.old z), e.fr, e.nc⟩
/-- more known at the start -/
theorem EnvS.reb (e : EnvS K c I0 H0 I H σ ρ s) (s0 : Sb I0 I1) (sb : Sb I1 I) : EnvS K c I1 H0 I H σ ρ s :=
  ⟨e.env, sb, e.kp, fun a h => (e.nw a h).imp (fun z => by
    cases q : I0 a with
    | none => exact absurd q z
    | some o => rw [s0 a o q]; simp) id, e.fr, e.nc⟩
theorem EnvS.back (e : EnvS K c I1 H0 I H σ ρ s) (s0 : Sb I0 I1) (n : ∀ a, I1 a ≠ none → I0 a ≠ none ∨ H0 a = none) : EnvS K c I0 H0 I H σ ρ s :=
  ⟨e.env, s0.trans e.s0, e.kp, fun a h => (e.nw a h).elim (n a) .inr, e.fr, e.nc⟩
theorem Gr.back (e : Gr c I1 H0 I H) (s0 : Sb I0 I1) (n : ∀ a, I1 a ≠ none → I0 a ≠ none ∨ H0 a = none) : Gr c I0 H0 I H :=
  ⟨s0.trans e.s1, e.s2, e.kp, fun a h => (e.nw a h).elim (n a) .inr⟩
theorem EnvS.gr (e : EnvS K c I0 H0 I H σ ρ s) : Gr c I0 H0 I H := ⟨e.s0, e.env.sub, e.kp, e.nw⟩
end

def Fin (K : Kx) (c : Option Addr) (I0 H0 : Hp) (s : Tau) (D : Ends) : Rs → Prop
  | .nx ρ => ∀ σ I H, EnvS K c I0 H0 I H σ ρ s → D.nx σ H
  | .rt d false => ∀ v I H, Gr c I0 H0 I H → DW K c s I H → Rep K c I v d → D.rt v H
  | .rt d true => ∀ p I H, Gr c I0 H0 I H → DW K c s I H → OwOk K c I H p d → H0 p = none → D.rt (.ref p) H
  | .bk ρ => ∀ σ I H, EnvS K c I0 H0 I H σ ρ s → D.bk σ H
  | .ct ρ => ∀ σ I H, EnvS K c I0 H0 I H σ ρ s → D.ct σ H
def SndS (K : Kx) (ts : TS) (dn : Ds) : Prop := ∀ c I0 H0 I H σ ρ s o s', EnvS K c I0 H0 I H σ ρ s → dn ρ s = some (o, s') →
  ∀ D : Ends, Fin K c I0 H0 s' D o → ts D σ H
/-- targets: js the slots that are stored -/
abbrev Dg := D → List Sl → Option (List Sl)
def SndG (K : Kx) (g : TG) (dg : Dg) (js : List Nat) : Prop := ∀ c I H v d σ ρ s ρ', Ec K c I H σ ρ s → Rep K c I v d → dg d ρ = some ρ' →
  ∀ Q : L2.St → Hp → Prop, (∀ σ', Ec K c I H σ' ρ' s → σ'.length = σ.length → (∀ k, k ∉ js → σ'[k]? = σ[k]?) → (∀ (i : Nat) (p : Addr) (d : D), σ'[i]? = some (some (V.ref p)) → ρ'[i]? = some (Sl.ow d) → σ[i]? = some (some (V.ref p)) ∧ ρ[i]? = some (Sl.ow d)) → Q σ' H) → g v σ H Q
/-- what is walked -/
def Yl (K : Kx) (c : Option Addr) (J : It) (I : Hp) (xs : List D) : Prop := ∀ I2 H2, Sb I I2 → Sub I2 H2 →
  (∀ (i : Nat) (d : D), xs[i]? = some d → J.go i H2 ∧ ∀ x H3, J.yld i H2 x H3 → ∃ I3, Gr none I2 H2 I3 H3 ∧ Rep K c I3 x d) ∧ J.stop xs.length H2
def SndI (K : Kx) (wi : TI) (dn : Da) : Prop := ∀ c I H σ ρ s xs s', Ec K c I H σ ρ s → dn ρ s = some (xs, s') →
  ∀ R : It → Hp → Prop, (∀ J I' H', Gr c I H I' H' → DW K c s' I' H' → Yl K c J I' xs → R J H') → wi σ H R
structure ES (X : Cx) (st : Stmt) (ts : TS) (dn : Ds) : Prop where
  p : PS X st ts
  s : SndS X.kx ts dn
structure ESs (X : Cx) (st : List Stmt) (ts : TS) (dn : Ds) : Prop where
  p : PSs X st ts
  s : SndS X.kx ts dn
structure EG (X : Cx) (e : Expr) (g : TG) (dg : Dg) (js : List Nat) : Prop where
  p : PG X e g
  s : SndG X.kx g dg js
structure EGs (X : Cx) (e : List Expr) (g : TGs) (dg : List D → List Sl → Option (List Sl)) (js : List Nat) : Prop where
  p : PGs X e g
  s : ∀ c I H vs ds σ ρ s ρ', Ec X.kx c I H σ ρ s → RepL X.kx c I vs ds → dg ds ρ = some ρ' →
    ∀ Q : L2.St → Hp → Prop, (∀ σ', Ec X.kx c I H σ' ρ' s → σ'.length = σ.length → (∀ k, k ∉ js → σ'[k]? = σ[k]?) → (∀ (i : Nat) (p : Addr) (d : D), σ'[i]? = some (some (V.ref p)) → ρ'[i]? = some (Sl.ow d) → σ[i]? = some (some (V.ref p)) ∧ ρ[i]? = some (Sl.ow d)) → Q σ' H) → g vs σ H Q
structure EI (X : Cx) (tg iter : Expr) (wi : TI) (dn : Da) : Prop where
  p : PI X tg iter wi
  s : SndI X.kx wi dn

def dNext : Ds := fun ρ s => some (.nx ρ, s)
def dSeq (a b : Ds) : Ds := fun ρ s => (a ρ s).bind fun p => match p.1 with
  | .nx ρ' => b ρ' p.2
  | o => some (o, p.2)
def dDrop (a : Dn) : Ds := fun ρ s => (a ρ s).map fun p => (.nx ρ, p.2)
def dRet (a : Dn) : Ds := fun ρ s => (a ρ s).map fun p => (.rt p.1 false, p.2)
def dRetN : Ds := fun ρ s => some (.rt .non false, s)
def dIfS (t : Dt) (a b : Ds) : Ds := fun ρ s => (t ρ s).bind fun p => if p.1 = true then a ρ p.2 else b ρ p.2
def dBrk : Ds := fun ρ s => some (.bk ρ, s)
def dCnt : Ds := fun ρ s => some (.ct ρ, s)
def dNever : Ds := fun _ _ => none
def dAsg (a : Dn) (g : Dg) : Ds := fun ρ s => (a ρ s).bind fun p => (g p.1 ρ).map fun ρ' => (.nx ρ', p.2)
def gdName (i : Nat) : Dg := fun d ρ => some (ρ.set i (.im d))
def gdNil : List D → List Sl → Option (List Sl) := fun ds ρ => match ds with
  | [] => some ρ
  | _ => none
def gdCons (g : Dg) (r : List D → List Sl → Option (List Sl)) : List D → List Sl → Option (List Sl) := fun ds ρ => match ds with
  | d :: ds => (g d ρ).bind (r ds)
  | [] => none
def gdTup (n : Nat) (r : List D → List Sl → Option (List Sl)) : Dg := fun d ρ => d.asT.bind fun ds => if ds.length = n then r ds ρ else none
/-- a loop over data -/
def dLoop (g : Dg) (b : Ds) : List D → Ds
  | [] => fun ρ s => some (.nx ρ, s)
  | x :: xs => fun ρ s => (g x ρ).bind fun ρ1 => (b ρ1 s).bind fun p => match p.1 with
    | .nx ρ2 => dLoop g b xs ρ2 p.2
    | .ct ρ2 => dLoop g b xs ρ2 p.2
    | .bk ρ2 => some (.nx ρ2, p.2)
    | .rt d o => some (.rt d o, p.2)
def dFor (it : Da) (g : Dg) (b : Ds) : Ds := fun ρ s => (it ρ s).bind fun p => dLoop g b p.1 ρ p.2

section
variable {K : Kx} {te : TE} {da : Dn} {tt : TT} {bt : Dt} {t u : TS} {a b : Ds} {g : TG} {dg : Dg} {js : List Nat}
theorem ss_next : SndS K tNext dNext := fun c I0 H0 I H σ ρ s o s' e h D q => by
  cases h
  exact q σ I H e
theorem ss_never : SndS K tNever dNever := fun c I0 H0 I H σ ρ s o s' e h D q => by cases h
theorem ss_seq (h1 : SndS K t a) (h2 : SndS K u b) : SndS K (tSeq t u) (dSeq a b) := fun c I0 H0 I H σ ρ s o s' e h D q => by
  obtain ⟨⟨x, s1⟩, ha, h⟩ := bind_some_of h
  refine h1 _ _ _ _ _ _ _ _ _ _ e ha _ ?_
  cases x with
  | nx ρ' => exact fun σ' I' H' e' => h2 _ _ _ _ _ _ _ _ _ _ e' h D q
  | rt d k => cases h; cases k <;> exact q
  | bk ρ' => cases h; exact q
  | ct ρ' => cases h; exact q
theorem ss_drop (h1 : SndE K te da) : SndS K (tDrop te) (dDrop da) := fun c I0 H0 I H σ ρ s o s' e h D q => by
  obtain ⟨⟨x, s1⟩, ha, h⟩ := map_some_of h
  cases h
  exact h1 _ _ _ _ _ _ _ _ e.env ha _ fun v I1 H1 g1 w1 r1 => q σ I1 H1 (e.grow g1 w1)
theorem ss_ret (h1 : SndE K te da) : SndS K (tRet te) (dRet da) := fun c I0 H0 I H σ ρ s o s' e h D q => by
  obtain ⟨⟨x, s1⟩, ha, h⟩ := map_some_of h
  cases h
  exact h1 _ _ _ _ _ _ _ _ e.env ha _ fun v I1 H1 g1 w1 r1 => q v I1 H1 (e.grow g1 w1).gr w1 r1
theorem ss_retN : SndS K tRetN dRetN := fun c I0 H0 I H σ ρ s o s' e h D q => by
  cases h
  exact q .non I H e.gr e.env.w .non
theorem ss_if (ht : SndT K tt bt) (h1 : SndS K t a) (h2 : SndS K u b) : SndS K (tIfS tt t u) (dIfS bt a b) := fun c I0 H0 I H σ ρ s o s' e h D q => by
  obtain ⟨⟨x, s1⟩, ha, h⟩ := bind_some_of h
  refine ht _ _ _ _ _ _ _ _ e.env ha _ fun I1 H1 g1 w1 => ?_
  cases x with
  | true => exact h1 _ _ _ _ _ _ _ _ _ _ (e.grow g1 w1) h D q
  | false => exact h2 _ _ _ _ _ _ _ _ _ _ (e.grow g1 w1) h D q
theorem ss_brk : SndS K tBreak dBrk := fun c I0 H0 I H σ ρ s o s' e h D q => by
  cases h
  exact q σ I H e
theorem ss_cnt : SndS K tCont dCnt := fun c I0 H0 I H σ ρ s o s' e h D q => by
  cases h
  exact q σ I H e
theorem ss_asg (h1 : SndE K te da) (hg : SndG K g dg js) : SndS K (tAsg te g) (dAsg da dg) := fun c I0 H0 I H σ ρ s o s' e h D q => by
  obtain ⟨⟨x, s1⟩, ha, h⟩ := bind_some_of h
  obtain ⟨ρ', hb, h⟩ := map_some_of h
  cases h
  refine h1 _ _ _ _ _ _ _ _ e.env ha _ fun v I1 H1 g1 w1 r1 => ?_
  have e1 := e.grow g1 w1
  exact hg _ _ _ _ _ _ _ _ _ e1.env r1 hb _ fun σ' e2 _ _ u => q σ' I1 H1 ⟨e2, e1.s0, e1.kp, e1.nw, fun i p d x y => by
    obtain ⟨x', y'⟩ := u i p d x y
    exact e1.fr i p d x' y', e1.nc⟩
theorem sg_name (i : Nat) : SndG K (gName i) (gdName i) [i] := fun c I H v d σ ρ s ρ' e r h Q q => by
  cases h
  refine q _ (e.setI r i) (by simp) (fun k hk => ?_) fun j p d' h1 h2 => ?_
  · rw [List.getElem?_set_ne (fun z => hk (by simp [z]))]
  · by_cases z : i = j
    · subst z
      rw [List.getElem?_set] at h2
      simp only [if_true] at h2
      split at h2
      · cases h2
      · cases h2
    · rw [List.getElem?_set_ne z] at h1 h2
      exact ⟨h1, h2⟩
theorem sg_tup {n : Nat} {gs : TGs} {dgs : List D → List Sl → Option (List Sl)}
    (hs : ∀ c I H vs ds σ ρ s ρ', Ec K c I H σ ρ s → RepL K c I vs ds → dgs ds ρ = some ρ' →
    ∀ Q : L2.St → Hp → Prop, (∀ σ', Ec K c I H σ' ρ' s → σ'.length = σ.length → (∀ k, k ∉ js → σ'[k]? = σ[k]?) → (∀ (i : Nat) (p : Addr) (d : D), σ'[i]? = some (some (V.ref p)) → ρ'[i]? = some (Sl.ow d) → σ[i]? = some (some (V.ref p)) ∧ ρ[i]? = some (Sl.ow d)) → Q σ' H) → gs vs σ H Q) :
    SndG K (gTup K n gs) (gdTup n dgs) js := fun c I H v d σ ρ s ρ' e r h Q q => by
  obtain ⟨ds, h1, h⟩ := bind_some_of h
  split at h
  · rename_i hl
    obtain ⟨a, xs, rfl, hx, hr⟩ := r.asT h1
    exact ⟨a, xs, rfl, e.sub.sqT hx, by rw [hr.length]; exact hl, hs _ _ _ _ _ _ _ _ _ e hr h Q q⟩
  · cases h
end

section
variable {X : Cx} {e e1 e2 : Expr} {te : TE} {da : Dn} {g : TG} {dg : Dg} {js : List Nat} {pos : Pos}
theorem eg_name {i : Nat} {x : Str} (hN : X.N.Nodup) (hi : X.N[i]? = some x) (hx : Loc X.env.scope x) (hf : X.fn x = true ∨ X.env.scope.names.lookup x = some .local := by first | exact .inl rfl | exact .inr rfl | assumption) : EG X (.Name x pos) (gName i) (gdName i) [i] :=
  ⟨pg_name hN hi hx hf, sg_name i⟩
theorem egs_nil : EGs X [] gNil gdNil [] := ⟨pgs_nil, fun c I H vs ds σ ρ s ρ' e r h Q q => by
  cases r with
  | nil =>
    cases h
    exact ⟨rfl, q σ e rfl (fun _ _ => rfl) fun _ _ _ a b => ⟨a, b⟩⟩
  | cons _ _ => cases h⟩
theorem egs_cons {es : List Expr} {gs : TGs} {dgs : List D → List Sl → Option (List Sl)} {ks : List Nat} (h1 : EG X e g dg js) (h2 : EGs X es gs dgs ks)
    (hs : (assignEach (e :: es) X.env).map (fun z => z.2) = assign e X.env :: (assignEach es X.env).map (fun z => z.2) := by rfl) : EGs X (e :: es) (gCons g gs) (gdCons dg dgs) (js ++ ks) :=
  ⟨pgs_cons h1.p h2.p hs, fun c I H vs ds σ ρ s ρ' e r h Q q => by
    cases r with
    | nil => cases h
    | @cons v d vs ds rv rr =>
      obtain ⟨ρ1, ha, h⟩ := bind_some_of h
      refine ⟨v, vs, rfl, h1.s _ _ _ _ _ _ _ _ _ e rv ha _ fun σ1 e1 l1 k1 u1 => ?_⟩
      refine h2.s _ _ _ _ _ _ _ _ _ e1 rr h _ fun σ2 e2 l2 k2 u2 => ?_
      refine q σ2 e2 (l2.trans l1) (fun k hk => ?_) fun i p d a b => ?_
      · rw [List.mem_append, not_or] at hk
        rw [k2 k hk.2, k1 k hk.1]
      · obtain ⟨a, b⟩ := u2 i p d a b
        exact u1 i p d a b⟩
theorem eg_tup {es : List Expr} {k : Nat} {gs : TGs} {n : Nat} {dgs : List D → List Sl → Option (List Sl)} (hc : X.calm = true) (h : EGs X es gs dgs js) (hn : (assignEach es X.env).length = n := by rfl)
    (hst : (assignEach es X.env).findIdx? (fun z => z.1) = none := by rfl) : EG X (.Tuple es k pos) (gTup X.kx n gs) (gdTup n dgs) js :=
  ⟨pg_tup hc h.p hn hst, sg_tup h.s⟩
end

/-! loops -/
section
variable {K : Kx} {wi : TI} {di : Da} {t : TS} {b : Ds} {g : TG} {dg : Dg} {js : List Nat}
theorem ss_for (hi : SndI K wi di) (hg : SndG K g dg js) (hb : SndS K t b) : SndS K (tFor wi g t) (dFor di dg b) := fun c I0 H0 I H σ ρ s o s' e h D q => by
  obtain ⟨⟨xs, s1⟩, ha, h⟩ := bind_some_of h
  refine hi _ _ _ _ _ _ _ _ e.env ha _ fun J I1 H1 g1 w1 yl => ?_
  refine ⟨fun i m σ' H' => m = xs.length - i ∧ i ≤ xs.length ∧ ∃ I' ρ' s2, EnvS K c I0 H0 I' H' σ' ρ' s2 ∧ Sb I1 I' ∧ dLoop dg b (xs.drop i) ρ' s2 = some (o, s'),
    ⟨xs.length, by simp, Nat.zero_le _, I1, ρ, s1, e.grow g1 w1, .refl _, by simpa using h⟩, ?_⟩
  rintro i m σ' H' ⟨rfl, hle, I', ρ', s2, e', sb, hl⟩
  obtain ⟨y1, y2⟩ := yl I' H' sb e'.env.sub
  by_cases hlt : i < xs.length
  · obtain ⟨go, yld⟩ := y1 i xs[i] (List.getElem?_eq_getElem hlt)
    rw [List.drop_eq_getElem_cons hlt] at hl
    obtain ⟨ρ1, hx, hl⟩ := bind_some_of hl
    obtain ⟨⟨r, s3⟩, hbd, hl⟩ := bind_some_of hl
    refine .inr ⟨go, fun σ2 H2 => ∃ I2 ρ2 s4, EnvS K c I0 H0 I2 H2 σ2 ρ2 s4 ∧ Sb I1 I2 ∧ dLoop dg b (xs.drop (i + 1)) ρ2 s4 = some (o, s'), fun σ2 H2 ⟨I2, ρ2, s4, z1, z2, z3⟩ => ⟨xs.length - (i + 1), by omega, rfl, hlt, I2, ρ2, s4, z1, z2, z3⟩, fun x H3 hy => ?_⟩
    obtain ⟨I3, g3, r3⟩ := yld x H3 hy
    have w3 := e'.env.w.gr g3
    have e3 := e'.grow g3.up w3
    refine hg _ _ _ _ _ _ _ _ _ e3.env r3 hx _ fun σ4 e4 _ _ u4 => ?_
    have e5 : EnvS K c I0 H0 I3 H3 σ4 ρ1 s2 := ⟨e4, e3.s0, e3.kp, e3.nw, fun j p d a b => by
      obtain ⟨a, b⟩ := u4 j p d a b
      exact e3.fr j p d a b, e3.nc⟩
    have e1 := e.grow g1 w1
    refine hb _ _ _ _ _ _ _ _ _ _ (e5.reb e1.s0 (sb.trans g3.s1)) hbd _ ?_
    cases r with
    | nx ρ2 => exact fun σ6 I6 H6 e6 => ⟨I6, ρ2, s3, e6.back e1.s0 e1.nw, e6.s0, hl⟩
    | ct ρ2 => exact fun σ6 I6 H6 e6 => ⟨I6, ρ2, s3, e6.back e1.s0 e1.nw, e6.s0, hl⟩
    | bk ρ2 => cases hl; exact fun σ6 I6 H6 e6 => q σ6 I6 H6 (e6.back e1.s0 e1.nw)
    | rt d k =>
      cases hl
      cases k with
      | false => exact fun v I6 H6 g6 w6 r6 => q v I6 H6 (g6.back e1.s0 e1.nw) w6 r6
      | true => exact fun v I6 H6 g6 w6 r6 => q v I6 H6 (g6.back e1.s0 e1.nw) w6 r6
  · have ei : i = xs.length := by omega
    subst ei
    rw [List.drop_length] at hl
    cases hl
    exact .inl ⟨y2, q _ _ _ e'⟩
end
end Dl
end
section
set_option Elab.async false
set_option linter.all false
set_option maxRecDepth 100000
set_option maxHeartbeats 4000000
namespace Dl
open PySem PySem.Spec PyProof.Rows L2 StX

/-! data compared: as the library does -/
mutual
def D.conv : D → Option PyData
  | .non => some .none
  | .bl b => some (.bool b)
  | .int i => some (.int i)
  | .str x => some (.str x)
  | .tup xs => (convL xs).map .tuple
  | .ktp xs => (convL xs).map .tuple
  | .lst xs => (convL xs).map .list
  | .dS _ => none
  | .dT _ => none
  | .sl _ => none
  | .rw => none
  | .fn _ => none
termination_by structural d => d
def convL : List D → Option (List PyData)
  | [] => some []
  | x :: xs => x.conv.bind fun y => (convL xs).map fun ys => y :: ys
termination_by structural d => d
end
section
variable {K : Kx} {c : Option Addr} {I H : Hp}
mutual
theorem Rep.dp (s : Sub I H) : ∀ {v : V} {d : D} {p : PyData}, Rep K c I v d → d.conv = some p → Dp K H v p
  | _, _, _, .non, e => by cases e; exact .non
  | _, _, _, .bl b, e => by cases e; exact .bl b
  | _, _, _, .int b, e => by cases e; exact .int b
  | _, _, _, .str b, e => by cases e; exact .str b
  | _, _, _, .tup h _ r, e => by
    obtain ⟨x, h1, rfl⟩ := map_some_of e
    exact .tup (.inl (s.rdT (.inr ⟨_, h⟩))) (RepL.dp s r h1)
  | _, _, _, .ktp h r, e => by
    obtain ⟨x, h1, rfl⟩ := map_some_of e
    exact .tup (s.sqT h) (RepL.dp s r h1)
  | _, _, _, .lst h r, e => by
    obtain ⟨x, h1, rfl⟩ := map_some_of e
    exact .lst (.of (s.lst h)) (RepL.dp s r h1)
  | _, _, _, .dS _ _, e => by cases e
  | _, _, _, .dT _ _, e => by cases e
  | _, _, _, .sl _, e => by cases e
  | _, _, _, .rw _, e => by cases e
  | _, _, _, .fn _, e => by cases e
theorem RepL.dp (s : Sub I H) : ∀ {v : List V} {d : List D} {p : List PyData}, RepL K c I v d → convL d = some p → DpAll K H v p
  | _, _, _, .nil, e => by cases e; exact .nil
  | _, _, _, .cons a r, e => by
    obtain ⟨y, h1, e⟩ := bind_some_of e
    obtain ⟨ys, h2, rfl⟩ := map_some_of e
    exact .cons (Rep.dp s a h1) (RepL.dp s r h2)
end
end
def eqB (d e : D) : Option Bool := d.conv.bind fun x => e.conv.bind fun y => if (SeqAt.shaped x && SeqAt.shaped y) = true then some (PyData.eqv x y) else none
def eqD (d e : D) : Option D := (eqB d e).map .bl
def neD (d e : D) : Option D := (eqB d e).map fun b => .bl (!b)
def inB (d e : D) : Option Bool := d.conv.bind fun x => e.its.bind fun es => (convL es).bind fun ys => if (SeqAt.shaped x && SeqAt.shaped (.list ys) && SeqAt.shaped (.tuple ys)) = true then some (ys.any fun z => PyData.eqv z x) else none
def inD (d e : D) : Option D := (inB d e).map .bl
def ninD (d e : D) : Option D := (inB d e).map fun b => .bl (!b)
theorem s2_eq {K : Kx} : Snd2 K (rEqD K) eqD := fun c I H x y d e z s rx ry h Q q => by
  obtain ⟨b, h0, rfl⟩ := map_some_of h
  obtain ⟨p1, h1, h⟩ := bind_some_of h0
  obtain ⟨p2, h2, h⟩ := bind_some_of h
  split at h
  · rename_i hs
    cases h
    rw [Bool.and_eq_true] at hs
    exact ⟨p1, p2, rx.dp s h1, ry.dp s h2, hs.1, hs.2, q.val s (.bl _)⟩
  · cases h
theorem s2_ne {K : Kx} : Snd2 K (rNeD K) neD := fun c I H x y d e z s rx ry h Q q => by
  obtain ⟨b, h0, rfl⟩ := map_some_of h
  obtain ⟨p1, h1, h⟩ := bind_some_of h0
  obtain ⟨p2, h2, h⟩ := bind_some_of h
  split at h
  · rename_i hs
    cases h
    rw [Bool.and_eq_true] at hs
    exact ⟨p1, p2, rx.dp s h1, ry.dp s h2, hs.1, hs.2, q.val s (.bl _)⟩
  · cases h
/-- in, not in: a list or a tuple of data -/
def rInA (K : Kx) (neg : Bool) : R2 := fun x y H Q => ∃ d ds, Dp K H x d ∧ (Dp K H y (.list ds) ∨ Dp K H y (.tuple ds)) ∧ SeqAt.shaped d = true ∧ SeqAt.shaped (.list ds) = true ∧ SeqAt.shaped (.tuple ds) = true ∧
  Q (.bl (if neg = true then !ds.any fun z => PyData.eqv z d else ds.any fun z => PyData.eqv z d)) H
section
variable {X : Cx}
theorem tup_room {A : Around} {d : PyData} {ds : List PyData} (h : SeqAt.shaped d = true) (hu : A.units + 65 < cLine) : A.units + 1 + min (PyData.depthAll ds) d.depth < cLine := by
  have h1 := SeqAt.depth_of_shaped h
  have h2 : min (PyData.depthAll ds) d.depth ≤ d.depth := Nat.min_le_right _ _
  omega
theorem op_inA (hu : X.A.units + 65 < cLine) : OpR X (compareOp .In) (rInA X.kx false) := by
  intro pins s σ H x y v u Q I rx ry h
  obtain ⟨d, ds, hd, he, sd, sl, st, q⟩ := h
  obtain ⟨as, r1⟩ := Dp.reads I d x v hd rx
  rcases he with he | he
  · obtain ⟨bs, r2⟩ := Dp.reads I (.list ds) y u he ry
    exact SeqAt.in_list_reads r2 r1 (SeqAt.canLay_of_shaped sl) (SeqAt.canLay_of_shaped sd) (tup_room sd hu) ⟨.bl _, H, I, rfl, q⟩
  · obtain ⟨bs, r2⟩ := Dp.reads I (.tuple ds) y u he ry
    exact SeqAt.in_tuple_reads r2 r1 (SeqAt.canLay_of_shaped st) (SeqAt.canLay_of_shaped sd) (tup_room sd hu) ⟨.bl _, H, I, rfl, q⟩
theorem op_ninA (hu : X.A.units + 65 < cLine) : OpR X (compareOp .NotIn) (rInA X.kx true) := by
  intro pins s σ H x y v u Q I rx ry h
  obtain ⟨d, ds, hd, he, sd, sl, st, q⟩ := h
  obtain ⟨as, r1⟩ := Dp.reads I d x v hd rx
  rcases he with he | he
  · obtain ⟨bs, r2⟩ := Dp.reads I (.list ds) y u he ry
    exact SeqAt.notIn_list_reads r2 r1 (SeqAt.canLay_of_shaped sl) (SeqAt.canLay_of_shaped sd) (tup_room sd hu) ⟨.bl _, H, I, rfl, q⟩
  · obtain ⟨bs, r2⟩ := Dp.reads I (.tuple ds) y u he ry
    exact SeqAt.notIn_tuple_reads r2 r1 (SeqAt.canLay_of_shaped st) (SeqAt.canLay_of_shaped sd) (tup_room sd hu) ⟨.bl _, H, I, rfl, q⟩
end
theorem Rep.its_dp {K : Kx} {c : Option Addr} {I H : Hp} {v : V} {d : D} {ds : List D} {ps : List PyData} (s : Sub I H) (h : Rep K c I v d) (e : d.its = some ds) (e2 : convL ds = some ps) : Dp K H v (.list ps) ∨ Dp K H v (.tuple ps) := by
  cases h with
  | tup h z r => cases e; exact .inr (.tup (.inl (s.rdT (.inr ⟨_, h⟩))) (RepL.dp s r e2))
  | ktp h r => cases e; exact .inr (.tup (s.sqT h) (RepL.dp s r e2))
  | lst h r => cases e; exact .inl (.lst (.of (s.lst h)) (RepL.dp s r e2))
  | _ => cases e
theorem s2_in {K : Kx} : Snd2 K (rInA K false) inD := fun c I H x y d e z s rx ry h Q q => by
  obtain ⟨b, h0, rfl⟩ := map_some_of h
  obtain ⟨p1, h1, h⟩ := bind_some_of h0
  obtain ⟨es, h2, h⟩ := bind_some_of h
  obtain ⟨ps, h3, h⟩ := bind_some_of h
  split at h
  · rename_i hs
    cases h
    rw [Bool.and_eq_true, Bool.and_eq_true] at hs
    exact ⟨p1, ps, rx.dp s h1, ry.its_dp s h2 h3, hs.1.1, hs.1.2, hs.2, q.val s (.bl _)⟩
  · cases h
theorem s2_nin {K : Kx} : Snd2 K (rInA K true) ninD := fun c I H x y d e z s rx ry h Q q => by
  obtain ⟨b, h0, rfl⟩ := map_some_of h
  obtain ⟨p1, h1, h⟩ := bind_some_of h0
  obtain ⟨es, h2, h⟩ := bind_some_of h
  obtain ⟨ps, h3, h⟩ := bind_some_of h
  split at h
  · rename_i hs
    cases h
    rw [Bool.and_eq_true, Bool.and_eq_true] at hs
    exact ⟨p1, ps, rx.dp s h1, ry.its_dp s h2 h3, hs.1.1, hs.1.2, hs.2, q.val s (.bl _)⟩
  · cases h

/-! + - * // % << -/
def addD : D → D → Option D
  | .int i, .int j => some (.int (i + j))
  | .str x, .str y => if x.length + y.length ≤ 1000000 then some (.str (x ++ y)) else none
  | .lst xs, .lst ys => if xs.length + ys.length ≤ 1000000 then some (.lst (xs ++ ys)) else none
  | d, e => d.asT.bind fun xs => e.asT.bind fun ys => if xs.length + ys.length ≤ 1000000 then some (.ktp (xs ++ ys)) else none
def rAddI : R2 := rI0 fun i j => .int (i + j)
def rAddS : R2 := fun x y H Q => ∃ i j, x = .str i ∧ y = .str j ∧ i.length + j.length ≤ sizeLine ∧ Q (.str (i ++ j)) H
def rAddA (K : Kx) : R2 := fun x y H Q => rAddI x y H Q ∨ (rAddS x y H Q ∨ (rCat x y H Q ∨ rCatA K x y H Q))
theorem op_addA {X : Cx} : OpR X (binaryOp .Add) (rAddA X.kx) := OpR.or (r := rAddI) op_add (OpR.or (r := rAddS) op_add_str (OpR.or op_cat op_catA))
theorem addD_asT {d e z : D} (h : addD d e = some z) : (∃ i j, d = .int i ∧ e = .int j ∧ z = .int (i + j)) ∨ (∃ x y, d = .str x ∧ e = .str y ∧ x.length + y.length ≤ 1000000 ∧ z = .str (x ++ y)) ∨
    (∃ xs ys, d = .lst xs ∧ e = .lst ys ∧ xs.length + ys.length ≤ 1000000 ∧ z = .lst (xs ++ ys)) ∨ ∃ xs ys, d.asT = some xs ∧ e.asT = some ys ∧ xs.length + ys.length ≤ 1000000 ∧ z = .ktp (xs ++ ys) := by
  unfold addD at h
  split at h
  · cases h; exact .inl ⟨_, _, rfl, rfl, rfl⟩
  · split at h
    · cases h; exact .inr (.inl ⟨_, _, rfl, rfl, by assumption, rfl⟩)
    · cases h
  · split at h
    · cases h; exact .inr (.inr (.inl ⟨_, _, rfl, rfl, by assumption, rfl⟩))
    · cases h
  · obtain ⟨xs, h1, h⟩ := bind_some_of h
    obtain ⟨ys, h2, h⟩ := bind_some_of h
    split at h
    · cases h; exact .inr (.inr (.inr ⟨xs, ys, h1, h2, by assumption, rfl⟩))
    · cases h
theorem s2_add {K : Kx} : Snd2 K (rAddA K) addD := fun c I H x y d e z s rx ry h Q q => by
  rcases addD_asT h with ⟨i, j, rfl, rfl, rfl⟩ | ⟨a, b, rfl, rfl, hl, rfl⟩ | ⟨xs, ys, rfl, rfl, hl, rfl⟩ | ⟨xs, ys, h1, h2, hl, rfl⟩
  · cases rx; cases ry
    exact .inl ⟨i, j, rfl, rfl, q.val s (.int _)⟩
  · cases rx; cases ry
    exact .inr (.inl ⟨a, b, rfl, rfl, mil hl, q.val s (.str _)⟩)
  · cases rx with
    | lst h1 r1 => cases ry with
      | lst h2 r2 => exact .inr (.inr (.inl ⟨_, _, _, _, rfl, rfl, s.lst h1, s.lst h2, mil (by rw [r1.length, r2.length]; exact hl), fun p hp => q.lst s hp (r1.app r2)⟩))
  · obtain ⟨a, us, rfl, ha, ra⟩ := rx.asT h1
    obtain ⟨b, ws, rfl, hb, rb⟩ := ry.asT h2
    refine .inr (.inr (.inr ⟨a, b, us, ws, rfl, rfl, s.sqT ha, s.sqT hb, mil (by rw [ra.length, rb.length]; exact hl), fun e => ?_, fun _ e => ?_, fun _ _ p hp => q.ktp s hp (ra.app rb)⟩))
    · subst e
      have r := ra.app rb
      exact q.val s (.ktp hb r)
    · subst e
      have r := ra.app rb
      rw [List.append_nil] at r
      exact q.val s (.ktp ha r)
def i2 (C : Int → Int → Bool) (g : Int → Int → D) : D → D → Option D
  | .int i, .int j => if C i j = true then some (g i j) else none
  | _, _ => none
theorem s2_I {K : Kx} {C : Int → Int → Prop} {C' : Int → Int → Bool} {g : Int → Int → V} {g' : Int → Int → D} (hc : ∀ i j, C' i j = true → C i j) (hg : ∀ c I i j, Rep K c I (g i j) (g' i j)) : Snd2 K (rI C g) (i2 C' g') := fun c I H x y d e z s rx ry h Q q => by
  unfold i2 at h
  split at h
  · split at h
    · cases h; cases rx; cases ry
      exact ⟨_, _, rfl, rfl, hc _ _ (by assumption), q.val s (hg _ _ _ _)⟩
    · cases h
  · cases h
theorem s2_I0 {K : Kx} {g : Int → Int → V} {g' : Int → Int → D} (hg : ∀ c I i j, Rep K c I (g i j) (g' i j)) : Snd2 K (rI0 g) (i2 (fun _ _ => true) g') := fun c I H x y d e z s rx ry h Q q => by
  unfold i2 at h
  split at h
  · rw [if_pos rfl] at h
    cases h; cases rx; cases ry
    exact ⟨_, _, rfl, rfl, q.val s (hg _ _ _ _)⟩
  · cases h
def subD : D → D → Option D := i2 (fun _ _ => true) fun i j => .int (i - j)
def fdivD : D → D → Option D := i2 (fun _ j => decide (0 < j ∧ j < 1073741824)) fun i j => .int (i / j)
def modD : D → D → Option D := i2 (fun _ j => decide (0 < j)) fun i j => .int (i % j)
def powD : D → D → Option D := i2 (fun i j => decide (0 ≤ j ∧ j ≤ 1000000 ∧ i.natAbs < 2 ^ 64)) fun i j => .int (i ^ j.toNat)
def shlD : D → D → Option D := i2 (fun i j => decide (0 ≤ j ∧ j ≤ 1000000 ∧ i.natAbs < 2 ^ 64)) fun i j => .int (i * 2 ^ j.toNat)
def ltD : D → D → Option D := i2 (fun _ _ => true) fun i j => .bl (decide (i < j))
def leD : D → D → Option D := i2 (fun _ _ => true) fun i j => .bl (decide (i ≤ j))
def gtD : D → D → Option D := i2 (fun _ _ => true) fun i j => .bl (decide (j < i))
def geD : D → D → Option D := i2 (fun _ _ => true) fun i j => .bl (decide (j ≤ i))
def mulI : D → D → Option D := i2 (fun i j => decide ((-(2 ^ 64) < i ∧ i < 2 ^ 64) ∨ (-(2 ^ 64) < j ∧ j < 2 ^ 64))) fun i j => .int (i * j)
/-- xs * k -/
def repL : D → D → Option D
  | .lst xs, .int k => if decide (0 ≤ k ∧ k ≤ 1000 ∧ xs.length ≤ 1000) = true then some (.lst (List.replicate k.toNat xs).flatten) else none
  | _, _ => none
def mulD : D → D → Option D := fun d e => (mulI d e).orElse fun _ => repL d e
def rMulI : R2 := rI CMul fun i j => .int (i * j)
def rMulA : R2 := fun x y H Q => rMulI x y H Q ∨ rRep x y H Q
theorem op_mulA {X : Cx} : OpR X (binaryOp .Mult) rMulA := OpR.or (r := rMulI) op_mul op_rep
theorem s2_mul {K : Kx} : Snd2 K rMulA mulD := fun c I H x y d e z s rx ry h Q q => by
  unfold mulD at h
  cases hm : mulI d e with
  | some w =>
    rw [hm] at h
    cases h
    exact .inl (s2_I (K := K) (C := CMul) (g := fun i j => .int (i * j)) (C' := fun i j => decide ((-(2 ^ 64) < i ∧ i < 2 ^ 64) ∨ (-(2 ^ 64) < j ∧ j < 2 ^ 64))) (g' := fun i j => .int (i * j)) (fun i j h => (by have h2 := of_decide_eq_true h; exact h2)) (fun _ _ i j => .int _) _ _ _ _ _ _ _ _ s rx ry hm Q q)
  | none =>
    rw [hm] at h
    have h : repL d e = some z := h
    unfold repL at h
    split at h
    · split at h
      · rename_i ds k _ hc0
        have hc := of_decide_eq_true hc0
        cases h
        cases ry
        cases rx with
        | lst h1 r1 =>
          have hl := r1.length
          refine .inr ⟨_, _, _, rfl, rfl, s.lst h1, by omega, by omega, ?_, fun p hp => q.lst s hp (r1.rep _)⟩
          have h2 : ds.length * k.toNat ≤ 1000 * 1000 := Nat.mul_le_mul hc.2.2 (by omega)
          rw [hl]
          exact mil h2
      · cases h
    · cases h
/-! the order of texts, too -/
def ltA : D → D → Option D
  | .str x, .str y => some (.bl (decide (x.cps.toList < y.cps.toList)))
  | d, e => ltD d e
def rLtS : R2 := fun x y H Q => ∃ i j, x = .str i ∧ y = .str j ∧ Q (.bl (decide (i.cps.toList < j.cps.toList))) H
def rLtI : R2 := rI0 fun i j => .bl (decide (i < j))
def rLtA : R2 := fun x y H Q => rLtI x y H Q ∨ rLtS x y H Q
theorem op_ltA {X : Cx} : OpR X (compareOp .Lt) rLtA := OpR.or (r := rLtI) (r' := rLtS) op_lt op_lt_str
theorem s2_lt {K : Kx} : Snd2 K rLtA ltA := fun c I H x y d e z s rx ry h Q q => by
  unfold ltA at h
  split at h
  · cases h; cases rx; cases ry
    exact .inr ⟨_, _, rfl, rfl, q.val s (.bl _)⟩
  · exact .inl (s2_I0 (K := K) (fun _ _ i j => .bl _) _ _ _ _ _ _ _ _ s rx ry h Q q)
def negD : D → Option D
  | .int i => some (.int (-i))
  | _ => none
theorem s1_neg {K : Kx} : Snd1 K (rU fun i => .int (-i)) negD := fun c I H x d z s rx h Q q => by
  cases rx with
  | int i => cases h; exact ⟨_, rfl, q.val s (.int _)⟩
  | _ => cases h
/-! items, slices -/
def ixD : D → D → Option D
  | .sl ns, .int i => (atI ns i).map .int
  | .str z, .int i => if z.length ≤ 1000000 then (atI z.cps.toList i).map fun c => .str ⟨#[c]⟩ else none
  | d, .int i => d.its.bind fun xs => atI xs i
  | _, _ => none
theorem atI_map {α β : Type} (f : α → β) (xs : List α) (i : Int) : atI (xs.map f) i = (atI xs i).map f := by
  unfold atI
  rw [List.length_map]
  cases ixN xs.length i with
  | none => rfl
  | some j => exact List.getElem?_map
theorem RepL.atI {K : Kx} {c : Option Addr} {I : Hp} {vs : List V} {ds : List D} {i : Int} {d : D} (r : RepL K c I vs ds) (h : L2.atI ds i = some d) : ∃ v, L2.atI vs i = some v ∧ Rep K c I v d := by
  obtain ⟨j, h1, h2⟩ := bind_some_of h
  obtain ⟨v, h3, h4⟩ := r.get h2
  refine ⟨v, ?_, h4⟩
  unfold L2.atI
  rw [r.length, h1]
  exact h3
theorem s2_ix {K : Kx} : Snd2 K (rIx K) ixD := fun c I H x y d e z s rx ry h Q q => by
  unfold ixD at h
  split at h
  · obtain ⟨n, h1, rfl⟩ := map_some_of h
    cases ry
    cases rx with
    | sl hs => exact .inl ⟨_, _, _, _, rfl, rfl, s.sqL hs, by rw [atI_map, h1]; rfl, q.val s (.int _)⟩
  · split at h
    · rename_i hl
      obtain ⟨n, h1, rfl⟩ := map_some_of h
      cases ry
      cases rx
      exact .inr (.inr ⟨_, _, _, rfl, rfl, mil hl, h1, q.val s (.str _)⟩)
    · cases h
  · obtain ⟨xs, h1, h2⟩ := bind_some_of h
    cases ry
    obtain ⟨a, vs, rfl, ha, ra⟩ := rx.its h1
    obtain ⟨v, h3, h4⟩ := ra.atI h2
    rcases ha with ha | ha
    · exact .inr (.inl ⟨_, _, _, _, rfl, rfl, s.sqT ha, h3, q.val s h4⟩)
    · exact .inl ⟨_, _, _, _, rfl, rfl, s.sqL ha, h3, q.val s h4⟩
  · cases h
def cutL {α : Type} (xs : List α) (lo hi : Option Int) : List α := (xs.drop (HT.sIx xs.length 0 lo)).take (HT.sIx xs.length xs.length hi - HT.sIx xs.length 0 lo)
theorem RepL.cut {K : Kx} {c : Option Addr} {I : Hp} {vs : List V} {ds : List D} (r : RepL K c I vs ds) (lo hi : Option Int) : RepL K c I (cutV vs lo hi) (cutL ds lo hi) := by
  unfold cutV cutL
  rw [r.length]
  exact (r.drop _).take _
def slD : D → Option Int → Option Int → Option D
  | .str z, lo, hi => if z.length ≤ 1000000 then some (.str (cutS z lo hi)) else none
  | .lst xs, lo, hi => some (.lst (cutL xs lo hi))
  | d, lo, hi => d.asT.map fun xs => .ktp (cutL xs lo hi)
def rSlAny (K : Kx) : V → Option Int → Option Int → Hp → VK → Prop := fun x lo hi H Q => rSlS x lo hi H Q ∨ (rSlL K x lo hi H Q ∨ rSlA K x lo hi H Q)
theorem sl_any {X : Cx} : SlR X (rSlAny X.kx) := SlR.or sl_str (SlR.or sl_list sl_tupA)
theorem ss_sl {K : Kx} : SndSl K (rSlAny K) slD := fun c I H x d lo hi z s rx h Q q => by
  unfold slD at h
  split at h
  · split at h
    · rename_i hl
      cases h; cases rx
      exact .inl ⟨_, rfl, mil hl, q.val s (.str _)⟩
    · cases h
  · cases h
    cases rx with
    | lst h1 r => exact .inr (.inl ⟨_, _, rfl, .of (s.lst h1), fun p hp => q.lst s hp (r.cut lo hi)⟩)
  · obtain ⟨xs, h1, rfl⟩ := map_some_of h
    obtain ⟨a, vs, rfl, ha, ra⟩ := rx.asT h1
    refine .inr (.inr ⟨a, vs, rfl, s.sqT ha, fun hw => ?_, fun _ p hp => q.ktp s hp (ra.cut lo hi)⟩)
    have e : cutV vs lo hi = vs := by
      unfold cutV
      rw [hw.1, hw.2]
      simp
    have r := ra.cut lo hi
    rw [e] at r
    exact q.val s (.ktp ha r)
end Dl
end
section
set_option Elab.async false
set_option linter.all false
set_option maxRecDepth 100000
set_option maxHeartbeats 4000000
namespace Dl
open PySem PySem.Spec PyProof.Rows L2 StX

section
variable {X : Cx} {e a b d : Expr} {es : List Expr} {te ta tb tc : TE} {da db dc : Dn} {tA tB' : TT} {bA bB : Dt} {tx : TA} {ax : Da} {pos p : Pos}
theorem ee_var (i : Nat) {x : Str} (hN : X.N[i]? = some x := by rfl) (hv : Vis X.env.scope x := by first | exact Or.inl rfl | exact Or.inr (Or.inl rfl) | exact Or.inr (Or.inr rfl)) (hd : (x == ("__debug__" : Str)) = false := by decide)
    (hcd : (x == ("__classdict__" : Str)) = false := by decide) : EE X (.Name x pos) (tVar i) (dVar i) := ⟨pe_var hN hv hd hcd, sn_var i⟩
theorem ee_int {i : Int} {j : Nat} : EE X (.Constant (.int i) j pos) (tC (.int i)) (dC (.int i)) := ⟨pe_int, sn_c fun _ _ => .int i⟩
theorem ee_bl {i : Bool} {j : Nat} : EE X (.Constant (.bool i) j pos) (tC (.bl i)) (dC (.bl i)) := ⟨pe_bl, sn_c fun _ _ => .bl i⟩
theorem ee_non {j : Nat} : EE X (.Constant .none j pos) (tC .non) (dC .non) := ⟨pe_non, sn_c fun _ _ => .non⟩
theorem ee_str {i : Str} {j : Nat} : EE X (.Constant (.str i) j pos) (tC (.str i)) (dC (.str i)) := ⟨pe_str, sn_c fun _ _ => .str i⟩
theorem ee_glob {x : Str} {v : V} {u : Value} {d : D} (hg : Gl X x) (hm : X.mg x = some u) (r : RelV v u) (rp : ∀ c I, Rep X.kx c I v d) (hd : (x == ("__debug__" : Str)) = false := by decide) : EE X (.Name x pos) (tC v) (dC d) :=
  ⟨pe_glob hg hm r hd, sn_c rp⟩
theorem ee_op {op : Operator} {r : R2} {f : D → D → Option D} (ho : OpR X (binaryOp op) r) (hs : Snd2 X.kx r f) (ha : EE X a ta da) (hb : EE X b tb db) : EE X (.BinOp a op b pos) (tOp r ta tb) (dOp f da db) :=
  ⟨pe_op ho ha.p hb.p, sn_op ha.s hb.s hs⟩
theorem ee_add (ha : EE X a ta da) (hb : EE X b tb db) : EE X (.BinOp a .Add b pos) (tOp (rAddA X.kx) ta tb) (dOp addD da db) := ee_op op_addA s2_add ha hb
theorem ee_sub (ha : EE X a ta da) (hb : EE X b tb db) : EE X (.BinOp a .Sub b pos) (tOp (rI0 fun i j => .int (i - j)) ta tb) (dOp subD da db) := ee_op op_sub (s2_I0 fun _ _ _ _ => .int _) ha hb
theorem ee_mul (ha : EE X a ta da) (hb : EE X b tb db) : EE X (.BinOp a .Mult b pos) (tOp rMulA ta tb) (dOp mulD da db) := ee_op op_mulA s2_mul ha hb
theorem ee_fdiv (ha : EE X a ta da) (hb : EE X b tb db) : EE X (.BinOp a .FloorDiv b pos) (tOp (rI CDiv fun i j => .int (i / j)) ta tb) (dOp fdivD da db) := ee_op op_fdiv (s2_I (fun _ _ h => (by have h2 := of_decide_eq_true h; exact h2)) fun _ _ _ _ => .int _) ha hb
theorem ee_mod (ha : EE X a ta da) (hb : EE X b tb db) : EE X (.BinOp a .Mod b pos) (tOp (rI (fun _ j => 0 < j) fun i j => .int (i % j)) ta tb) (dOp modD da db) := ee_op op_mod (s2_I (fun _ _ h => of_decide_eq_true h) fun _ _ _ _ => .int _) ha hb
theorem ee_pow (ha : EE X a ta da) (hb : EE X b tb db) : EE X (.BinOp a .Pow b pos) (tOp (rI CPow fun i j => .int (i ^ j.toNat)) ta tb) (dOp powD da db) := ee_op op_pow (s2_I (fun _ _ h => (by have h2 := of_decide_eq_true h; exact h2)) fun _ _ _ _ => .int _) ha hb
theorem ee_shl (ha : EE X a ta da) (hb : EE X b tb db) : EE X (.BinOp a .LShift b pos) (tOp (rI CPow fun i j => .int (i * 2 ^ j.toNat)) ta tb) (dOp shlD da db) := ee_op op_shl (s2_I (fun _ _ h => (by have h2 := of_decide_eq_true h; exact h2)) fun _ _ _ _ => .int _) ha hb
theorem ee_neg (ha : EE X a ta da) : EE X (.UnaryOp .USub a pos) (tUn (rU fun i => .int (-i)) ta) (dUn negD da) := ⟨pe_un un_neg ha.p, (sn_un ha.s s1_neg : SndE X.kx (fun σ H Q => ta σ H fun x H1 => rU (fun i => .int (-i)) x H1 Q) _)⟩
/-- a comparison's rule and what it means -/
structure CM (X : Cx) (op : CmpOp) (r : R2) (f : D → D → Option D) : Prop where
  o : OpR X (compareOp op) r
  s : Snd2 X.kx r f
theorem cm_eq {k : Nat} (hr : Room k X.A) : CM X .Eq (rEqD X.kx) eqD := ⟨op_eqD hr.units, s2_eq⟩
theorem cm_ne {k : Nat} (hr : Room k X.A) : CM X .NotEq (rNeD X.kx) neD := ⟨op_neD hr.units, s2_ne⟩
theorem un65 {A : Around} {k : Nat} (hr : Room (k + 1) A) : A.units + 65 < cLine := by have := hr.un; omega
theorem cm_in {k : Nat} (hr : Room (k + 1) X.A) : CM X .In (rInA X.kx false) inD := ⟨op_inA (un65 hr), s2_in⟩
theorem cm_nin {k : Nat} (hr : Room (k + 1) X.A) : CM X .NotIn (rInA X.kx true) ninD := ⟨op_ninA (un65 hr), s2_nin⟩
theorem cm_lt : CM X .Lt rLtA ltA := ⟨op_ltA, s2_lt⟩
theorem cm_le : CM X .LtE (rI0 fun i j => .bl (decide (i ≤ j))) leD := ⟨op_le, s2_I0 fun _ _ _ _ => .bl _⟩
theorem cm_gt : CM X .Gt (rI0 fun i j => .bl (decide (j < i))) gtD := ⟨op_gt, s2_I0 fun _ _ _ _ => .bl _⟩
theorem cm_ge : CM X .GtE (rI0 fun i j => .bl (decide (j ≤ i))) geD := ⟨op_ge, s2_I0 fun _ _ _ _ => .bl _⟩
theorem ee_cmp {op : CmpOp} {r : R2} {f : D → D → Option D} (h : CM X op r f) (ha : EE X a ta da) (hb : EE X b tb db) (hm : behindInMarks op b = false := by first | exact nomark _ | rfl) : EE X (.Compare a [op] [b] pos) (tOp r ta tb) (dOp f da db) :=
  ⟨pe_cmpR h.o ha.p hb.p hm, sn_op ha.s hb.s h.s⟩
theorem et_cmp {op : CmpOp} {r : R2} {f : D → D → Option D} (h : CM X op r f) (ha : EE X a ta da) (hb : EE X b tb db) (hm : behindInMarks op b = false := by first | exact nomark _ | rfl) : ET X (.Compare a [op] [b] pos) (tTest (tOp r ta tb)) (dB (dOp f da db)) :=
  ⟨pt_cmpR h.o ha.p hb.p hm, sn_test (sn_op ha.s hb.s h.s)⟩
def isNB : D → Option Bool
  | .non => some true
  | .fn _ => none
  | _ => some false
def isN (d : D) : Option D := (isNB d).map .bl
def notN (d : D) : Option D := (isNB d).map fun b => .bl (!b)
theorem isNB_of {K : Kx} {c : Option Addr} {I : Hp} {v : V} {d : D} {b : Bool} (r : Rep K c I v d) (h : isNB d = some b) : decide (v = .non) = b := by
  cases r with
  | non => cases h; rfl
  | fn v => cases h
  | _ => cases h; rfl
theorem s1_isN {K : Kx} : Snd1 K (fun x H Q => Q (.bl (decide (x = .non))) H) isN := fun c I H x d z s rx h Q q => by
  obtain ⟨b, h0, rfl⟩ := map_some_of h
  show Q (.bl (decide (x = .non))) H
  rw [isNB_of rx h0]
  exact q.val s (.bl _)
theorem s1_notN {K : Kx} : Snd1 K (fun x H Q => Q (.bl (!decide (x = .non))) H) notN := fun c I H x d z s rx h Q q => by
  obtain ⟨b, h0, rfl⟩ := map_some_of h
  show Q (.bl (!decide (x = .non))) H
  rw [isNB_of rx h0]
  exact q.val s (.bl _)
theorem ee_isN {j : Nat} {p' : Pos} (ha : EE X a ta da) : EE X (.Compare a [.Is] [.Constant .none j p'] pos) (tIsN ta) (dUn isN da) := ⟨pe_cmp (pc_isN ha.p) rfl, (sn_un ha.s s1_isN : SndE X.kx (fun σ H Q => ta σ H fun x H1 => (fun x H Q => Q (V.bl (decide (x = .non))) H) x H1 Q) _)⟩
theorem ee_notN {j : Nat} {p' : Pos} (ha : EE X a ta da) : EE X (.Compare a [.IsNot] [.Constant .none j p'] pos) (tNotN ta) (dUn notN da) := ⟨pe_cmp (pc_notN ha.p) rfl, (sn_un ha.s s1_notN : SndE X.kx (fun σ H Q => ta σ H fun x H1 => (fun x H Q => Q (V.bl (!decide (x = .non))) H) x H1 Q) _)⟩
theorem et_isN {j : Nat} {p' : Pos} (ha : EE X a ta da) : ET X (.Compare a [.Is] [.Constant .none j p'] pos) (tB (tIsN ta)) (dB (dUn isN da)) := ⟨pt_cmp (pc_isN ha.p) rfl, sn_B (sn_un ha.s s1_isN : SndE X.kx (fun σ H Q => ta σ H fun x H1 => (fun x H Q => Q (V.bl (decide (x = .non))) H) x H1 Q) _)⟩
theorem et_notN {j : Nat} {p' : Pos} (ha : EE X a ta da) : ET X (.Compare a [.IsNot] [.Constant .none j p'] pos) (tB (tNotN ta)) (dB (dUn notN da)) := ⟨pt_cmp (pc_notN ha.p) rfl, sn_B (sn_un ha.s s1_notN : SndE X.kx (fun σ H Q => ta σ H fun x H1 => (fun x H Q => Q (V.bl (!decide (x = .non))) H) x H1 Q) _)⟩
theorem ee_chain {op op' : CmpOp} {r r' : R2} {f g : D → D → Option D} (h : CM X op r f) (h' : CM X op' r' g) (ha : EE X a ta da) (hb : EE X b tb db) (hc : EE X d tc dc) (hm : lastMarks [op, op'] [b, d] = false := by rfl) :
    EE X (.Compare a [op, op'] [b, d] pos) (tChain r r' ta tb tc) (dChain f g da db dc) := ⟨pe_chain h.o h'.o ha.p hb.p hc.p hm, sn_chain ha.s hb.s hc.s h.s h'.s⟩
theorem et_val (ha : EE X e te da) (he : ∀ whole, isTrue e X.env whole = (do let v ← whole; standAt e.pos; holding [v] (truthy v)) := by intro _; rfl) : ET X e (tB te) (dB da) := ⟨pt_val ha.p he, sn_B ha.s⟩
theorem et_not (ha : ET X a tA bA) : ET X (.UnaryOp .Not a pos) (tNot tA) (dNot bA) := ⟨pt_not ha.p, sn_not ha.s⟩
/-- and, or as tests -/
structure EW (X : Cx) (e : Expr) (te : TT) (dn : Dt) : Prop where
  p : PW X e te
  s : SndT X.kx te dn
theorem ew_and1 (ha : ET X a tA bA) : EW X (.BoolOp .And [a] pos) tA bA := ⟨pw_and1 ha.p, ha.s⟩
theorem ew_or1 (ha : ET X a tA bA) : EW X (.BoolOp .Or [a] pos) tA bA := ⟨pw_or1 ha.p, ha.s⟩
theorem ew_and (ha : ET X a tA bA) (hb : EW X (.BoolOp .And (b :: es) pos) tB' bB) : EW X (.BoolOp .And (a :: b :: es) pos) (tAnd tA tB') (dAnd bA bB) := ⟨pw_and ha.p hb.p, sn_and ha.s hb.s⟩
theorem ew_or (ha : ET X a tA bA) (hb : EW X (.BoolOp .Or (b :: es) pos) tB' bB) : EW X (.BoolOp .Or (a :: b :: es) pos) (tOr tA tB') (dOr bA bB) := ⟨pw_or ha.p hb.p, sn_or ha.s hb.s⟩
theorem EW.t (h : EW X e tA bA) : ET X e tA bA := ⟨h.p.pt, h.s⟩
theorem ee_one {op : BoolOp} (ha : EE X a ta da) : EE X (.BoolOp op [a] pos) ta da := ⟨pe_one ha.p, ha.s⟩
theorem ee_and (ha : EE X a ta da) (hb : EE X (.BoolOp .And (b :: es) pos) tb db) : EE X (.BoolOp .And (a :: b :: es) pos) (tAndV ta tb) (dAndV da db) := ⟨pe_and ha.p hb.p, sn_andV ha.s hb.s⟩
theorem ee_or (ha : EE X a ta da) (hb : EE X (.BoolOp .Or (b :: es) pos) tb db) : EE X (.BoolOp .Or (a :: b :: es) pos) (tOrV ta tb) (dOrV da db) := ⟨pe_or ha.p hb.p, sn_orV ha.s hb.s⟩
theorem ee_not (ha : EE X a ta da) : EE X (.UnaryOp .Not a pos) (tNotV ta) (dNotV da) := ⟨pe_not ha.p, sn_notV ha.s⟩
theorem ee_if {t : Expr} (ht : ET X t tA bA) (ha : EE X a ta da) (hb : EE X b tb db) : EE X (.IfExp t a b pos) (tIf tA ta tb) (dIf bA da db) := ⟨pe_ifExp ht.p ha.p hb.p, sn_if ht.s ha.s hb.s⟩
theorem ea_nil : EA X [] tNil dNil := ⟨pa_nil, sn_nil⟩
theorem ea_cons (ha : EE X e te da) (hr : EA X es tx ax) (hs : starEach (e :: es) X.env = (false, eval e X.env) :: starEach es X.env := by rfl) : EA X (e :: es) (tCons te tx) (dCons da ax) := ⟨pa_cons ha.p hr.p hs, sn_cons ha.s hr.s⟩
theorem ea_star (ha : EE X e te da) (hr : EA X es tx ax) (hs : starEach (.Starred e p :: es) X.env = (true, eval e X.env) :: starEach es X.env := by rfl) : EA X (.Starred e p :: es) (tStar X.kx te tx) (dStar da ax) := ⟨pa_star ha.p hr.p hs, sn_star ha.s hr.s⟩
theorem ee_tup {k : Nat} (h : EA X es tx ax) : EE X (.Tuple es k pos) (tTupF tx) (dTup ax) := ⟨pe_tupF h.p, sn_tup h.s⟩
theorem ee_lst (h : EA X es tx ax) : EE X (.List es pos) (tLst tx) (dLst ax) := ⟨pe_lst h.p, sn_lst h.s⟩
theorem ee_ix (ha : EE X a ta da) (hb : EE X b tb db) (hs : PlainIx b := by exact fun _ _ => rfl) : EE X (.Subscript a b pos) (tOp (rIx X.kx) ta tb) (dOp ixD da db) := ⟨pe_ix ix_seq ha.p hb.p hs, sn_op ha.s hb.s s2_ix⟩
theorem eo_none : EO X none tNoPart dNone := ⟨po_none, sn_nopart⟩
theorem eo_some (ha : EE X a ta da) : EO X (some a) (tPart ta) (dSome da) := ⟨po_some ha.p, sn_part ha.s⟩
theorem ee_sl {lo hi : Option Expr} {tl th : TO} {dl dh : Do} {p2 : Pos} (ha : EE X a ta da) (hl : EO X lo tl dl) (hh : EO X hi th dh) : EE X (.Subscript a (.Slice lo hi none p2) pos) (tSl (rSlAny X.kx) ta tl th) (dSl slD da dl dh) :=
  ⟨pe_slice sl_any ha.p hl.p hh.p, sn_sl ha.s hl.s hh.s ss_sl⟩
theorem ee_callB {id : String} {x : Str} {r : List V → Hp → VK → Prop} {f : List D → Option D} (hc : CallR X (.builtin id) r) (hs : SndL X.kx r f) (hg : Gl X x) (hm : X.mg x = none) (hv : bootBuiltins x = some (.builtin id)) (ha : EA X (e :: es) tx ax) (hn : x ≠ "__name__" := by decide) (hdb : (x == ("__debug__" : Str)) = false := by decide)
    (he : starEach (e :: es) X.env = (false, eval e X.env) :: starEach es X.env := by rfl) (hpl : (backTo pos (starEach es X.env)).any (fun z => z.1) = false := by rfl) : EE X (.Call (.Name x p) (e :: es) [] pos) (tCB r tx) (dCallB f ax) :=
  ⟨pe_callB hc hg hm hv ha.p hn hdb he hpl, sn_callB ha.s hs⟩
theorem ee_callT {T : String} {x : Str} {r : List V → Hp → VK → Prop} {f : List D → Option D} (hc : CallR X (.type T) r) (hs : SndL X.kx r f) (hg : Gl X x) (hm : X.mg x = none) (hv : bootBuiltins x = some (.type T)) (ha : EA X (e :: es) tx ax) (hn : x ≠ "__name__" := by decide) (hdb : (x == ("__debug__" : Str)) = false := by decide)
    (he : starEach (e :: es) X.env = (false, eval e X.env) :: starEach es X.env := by rfl) (hpl : (backTo pos (starEach es X.env)).any (fun z => z.1) = false := by rfl) : EE X (.Call (.Name x p) (e :: es) [] pos) (tCB r tx) (dCallB f ax) :=
  ⟨pe_callTy hc hg hm hv ha.p hn hdb he hpl, sn_callB ha.s hs⟩
end

/-! built-ins -/
section
variable {K : Kx}
def lenD : List D → Option D
  | [.str z] => if z.length ≤ 1000000 then some (.int z.length) else none
  | [.sl ns] => some (.int ns.length)
  | [d] => d.its.map fun xs => .int xs.length
  | _ => none
def rLenA (K : Kx) : List V → Hp → VK → Prop := fun xs H Q => ∃ x n, xs = [x] ∧ LenV K x H n ∧ Q (.int n) H
theorem sl_len : SndL K (rLenA K) lenD := fun c I H xs ds z s rx h Q q => by
  unfold lenD at h
  split at h
  · split at h
    · rename_i hl
      cases h
      cases rx with
      | cons a r => cases r; cases a; exact ⟨_, _, rfl, ⟨mil hl, rfl⟩, q.val s (.int _)⟩
    · cases h
  · cases h
    cases rx with
    | cons a r => cases r; cases a with
      | sl hs => exact ⟨_, _, rfl, .inl ⟨_, s.sqL hs, by rw [List.length_map]⟩, q.val s (.int _)⟩
  · obtain ⟨xs, h1, rfl⟩ := map_some_of h
    cases rx with
    | cons a r =>
      cases r
      obtain ⟨p, vs, rfl, hp, rp⟩ := a.its h1
      refine ⟨_, _, rfl, ?_, q.val s (.int _)⟩
      rcases hp with hp | hp
      · exact .inr ⟨_, s.sqT hp, rp.length.symm⟩
      · exact .inl ⟨_, s.sqL hp, rp.length.symm⟩
  · cases h
def intD : List D → Option D
  | [.int i] => some (.int i)
  | _ => none
def rIntA : List V → Hp → VK → Prop := fun xs H Q => (∃ i, xs = [.int i] ∧ Q (.int i) H) ∨ ∃ k, xs = [.bl k] ∧ Q (.int (if k then 1 else 0)) H
theorem sl_int : SndL K rIntA intD := fun c I H xs ds z s rx h Q q => by
  unfold intD at h
  split at h
  · cases h
    cases rx with
    | cons a r => cases r; cases a; exact .inl ⟨_, rfl, q.val s (.int _)⟩
  · cases h
def tupleD : List D → Option D
  | [.lst xs] => some (.tup xs)
  | [.tup xs] => some (.tup xs)
  | [.ktp xs] => some (.ktp xs)
  | _ => none
theorem sl_tuple : SndL K (rTupOf K) tupleD := fun c I H xs ds z s rx h Q q => by
  unfold tupleD at h
  split at h
  · cases h
    cases rx with
    | cons a r => cases r; cases a with
      | lst h1 r1 => exact ⟨_, _, rfl, .inl ⟨.of (s.lst h1), fun l o hl ho => q.tup s hl ho r1⟩⟩
  · cases h
    cases rx with
    | cons a r => cases r; cases a with
      | tup h1 ho r1 => exact ⟨_, _, rfl, .inr ⟨.inl (s.rdT (.inr ⟨_, h1⟩)), q.val s (.tup h1 ho r1)⟩⟩
  · cases h
    cases rx with
    | cons a r => cases r; cases a with
      | ktp h1 r1 => exact ⟨_, _, rfl, .inr ⟨s.sqT h1, q.val s (.ktp h1 r1)⟩⟩
  · cases h
def boolsOf : List D → Option (List Bool)
  | [] => some []
  | .bl b :: r => (boolsOf r).map fun bs => b :: bs
  | _ :: _ => none
theorem boolsOf_rep {c : Option Addr} {I : Hp} : ∀ {vs : List V} {ds : List D} {bs : List Bool}, RepL K c I vs ds → boolsOf ds = some bs → vs = bs.map V.bl
  | _, _, _, .nil, h => by cases h; rfl
  | _, _, _, .cons a r, h => by
    cases a with
    | bl b =>
      obtain ⟨bs, h1, rfl⟩ := map_some_of h
      rw [boolsOf_rep r h1]; rfl
    | _ => cases h
def anyD : List D → Option D
  | [.lst xs] => (boolsOf xs).map fun bs => .bl (bs.any id)
  | _ => none
def allD : List D → Option D
  | [.lst xs] => (boolsOf xs).map fun bs => .bl (bs.all id)
  | _ => none
theorem sl_anyB : SndL K (rAny K) anyD := fun c I H xs ds z s rx h Q q => by
  unfold anyD at h
  split at h
  · obtain ⟨bs, h1, rfl⟩ := map_some_of h
    cases rx with
    | cons a r => cases r; cases a with
      | lst h2 r1 =>
        rw [boolsOf_rep r1 h1] at h2
        exact ⟨_, bs, rfl, .of (s.lst h2), q.val s (.bl _)⟩
  · cases h
theorem sl_allB : SndL K (rAll K) allD := fun c I H xs ds z s rx h Q q => by
  unfold allD at h
  split at h
  · obtain ⟨bs, h1, rfl⟩ := map_some_of h
    cases rx with
    | cons a r => cases r; cases a with
      | lst h2 r1 =>
        rw [boolsOf_rep r1 h1] at h2
        exact ⟨_, bs, rfl, .of (s.lst h2), q.val s (.bl _)⟩
  · cases h
def intsOf : List D → Option (List Int)
  | [] => some []
  | .int b :: r => (intsOf r).map fun bs => b :: bs
  | _ :: _ => none
theorem intsOf_rep {c : Option Addr} {I : Hp} : ∀ {vs : List V} {ds : List D} {bs : List Int}, RepL K c I vs ds → intsOf ds = some bs → vs = bs.map V.int
  | _, _, _, .nil, h => by cases h; rfl
  | _, _, _, .cons a r, h => by
    cases a with
    | int b =>
      obtain ⟨bs, h1, rfl⟩ := map_some_of h
      rw [intsOf_rep r h1]; rfl
    | _ => cases h
def strsOf : List D → Option (List Str)
  | [] => some []
  | .str b :: r => (strsOf r).map fun bs => b :: bs
  | _ :: _ => none
theorem strsOf_rep {c : Option Addr} {I : Hp} : ∀ {vs : List V} {ds : List D} {bs : List Str}, RepL K c I vs ds → strsOf ds = some bs → vs = bs.map V.str
  | _, _, _, .nil, h => by cases h; rfl
  | _, _, _, .cons a r, h => by
    cases a with
    | str b =>
      obtain ⟨bs, h1, rfl⟩ := map_some_of h
      rw [strsOf_rep r h1]; rfl
    | _ => cases h
def sumD : List D → Option D
  | [.lst xs] => (intsOf xs).map fun bs => .int bs.sum
  | _ => none
theorem sl_sum : SndL K (rSum K) sumD := fun c I H xs ds z s rx h Q q => by
  unfold sumD at h
  split at h
  · obtain ⟨bs, h1, rfl⟩ := map_some_of h
    cases rx with
    | cons a r => cases r; cases a with
      | lst h2 r1 =>
        rw [intsOf_rep r1 h1] at h2
        exact ⟨_, bs, rfl, .of (s.lst h2), q.val s (.int _)⟩
  · cases h
def maxD : List D → Option D
  | [.int i, .int j] => some (.int (if j > i then j else i))
  | _ => none
def minD : List D → Option D
  | [.int i, .int j] => some (.int (if j < i then j else i))
  | _ => none
def rMax2 : List V → Hp → VK → Prop := fun xs H Q => ∃ i j, xs = [.int i, .int j] ∧ Q (.int (if j > i then j else i)) H
def rMin2 : List V → Hp → VK → Prop := fun xs H Q => ∃ i j, xs = [.int i, .int j] ∧ Q (.int (if j < i then j else i)) H
theorem sl_max : SndL K rMax2 maxD := fun c I H xs ds z s rx h Q q => by
  unfold maxD at h
  split at h
  · cases h
    cases rx with
    | cons a r => cases r with
      | cons b r => cases r; cases a; cases b; exact ⟨_, _, rfl, q.val s (.int _)⟩
  · cases h
theorem sl_min : SndL K rMin2 minD := fun c I H xs ds z s rx h Q q => by
  unfold minD at h
  split at h
  · cases h
    cases rx with
    | cons a r => cases r with
      | cons b r => cases r; cases a; cases b; exact ⟨_, _, rfl, q.val s (.int _)⟩
  · cases h
/-! kinds -/
def D.ty : D → Option String
  | .non => some "NoneType"
  | .bl _ => some "bool"
  | .int _ => some "int"
  | .str _ => some "str"
  | .tup _ => some "tuple"
  | .ktp _ => some "tuple"
  | .lst _ => some "list"
  | _ => none
theorem Rep.tyX {c : Option Addr} {I H : Hp} {v : V} {d : D} {t : String} (s : Sub I H) (r : Rep K c I v d) (h : d.ty = some t) : TyX K H v (.type t) := by
  cases r with
  | non => cases h; exact .base .non
  | bl b => cases h; exact .base (.bl b)
  | int b => cases h; exact .base (.int b)
  | str b => cases h; exact .base (.str b)
  | tup h1 _ _ => cases h; exact .fTuple (s.get h1 fun _ z => by cases z)
  | ktp h1 _ =>
    cases h
    rcases s.sqT h1 with (h1 | ⟨o, h1⟩) | ⟨o, its, n, h1, h2, _⟩
    · exact .base (.tup h1)
    · exact .fTuple h1
    · exact .kTuple h1 h2
  | lst h1 _ => cases h; exact .base (.lst (s.lst h1))
  | _ => cases h
/-- the types that are asked -/
def tyB (t u : String) : Bool := t == u || (t == "bool" && u == "int")
def tysAsked : List String := ["NoneType", "bool", "int", "str", "tuple", "list"]
theorem kit_all : (tysAsked.all fun t => ["int", "str", "tuple", "list", "bool"].all fun u => decide (kitB t u = some (tyB t u))) = true := by decide +kernel
theorem kit_tyB {t u : String} (ht : t ∈ tysAsked) (hu : u ∈ ["int", "str", "tuple", "list", "bool"]) : PySem.W.kitOne K (.type t) (.type u) = some (tyB t u) :=
  kit_ty (of_decide_eq_true (List.all_eq_true.mp (List.all_eq_true.mp kit_all t ht) u hu))
theorem D.ty_asked {d : D} {t : String} (h : d.ty = some t) : t ∈ tysAsked := by
  cases d <;> cases h <;> decide
def isiD (u : String) (d : D) : Option D := d.ty.map fun t => .bl (tyB t u)
def isi2D (u w : String) (d : D) : Option D := d.ty.map fun t => .bl (tyB t u || tyB t w)
/-- isinstance(e, T) -/
def tIsi (K : Kx) (te tc : TE) : TE := tCB (rIsi K) (tCons te (tCons tc tNil))
theorem sn_isi {te : TE} {da : Dn} {u : String} (hu : u ∈ ["int", "str", "tuple", "list", "bool"]) (h1 : SndE K te da) : SndE K (tIsi K te (tC (.ty u))) (dUn (isiD u) da) := fun c I H σ ρ s d s' e h Q q => by
  obtain ⟨⟨x, s1⟩, h2, h⟩ := bind_some_of h
  obtain ⟨z, h3, h⟩ := map_some_of h
  cases h
  obtain ⟨t, h4, rfl⟩ := map_some_of h3
  refine h1 _ _ _ _ _ _ _ _ e h2 _ fun v I1 H1 g1 w1 r1 => ?_
  exact ⟨v, .ty u, .type t, .type u, tyB t u, rfl, .ty u, r1.tyX g1.s2 h4, kit_tyB (D.ty_asked h4) hu, q _ _ _ g1 w1 (.bl _)⟩
/-- isinstance(e, (T, U)) -/
def tIsi2 (K : Kx) (te tc tc2 : TE) : TE := tCB (rIsiT K) (tCons te (tCons (tTup (tCons tc (tCons tc2 tNil))) tNil))
theorem sn_isi2 {te : TE} {da : Dn} {u u2 : String} (hu : u ∈ ["int", "str", "tuple", "list", "bool"]) (hu2 : u2 ∈ ["int", "str", "tuple", "list", "bool"]) (h1 : SndE K te da) : SndE K (tIsi2 K te (tC (.ty u)) (tC (.ty u2))) (dUn (isi2D u u2) da) := fun c I H σ ρ s d s' e h Q q => by
  obtain ⟨⟨x, s1⟩, h2, h⟩ := bind_some_of h
  obtain ⟨z, h3, h⟩ := map_some_of h
  cases h
  obtain ⟨t, h4, rfl⟩ := map_some_of h3
  refine h1 _ _ _ _ _ _ _ _ e h2 _ fun v I1 H1 g1 w1 r1 => ⟨by show 2 ≤ sizeLine; decide, fun p hp => ?_⟩
  have g := Gr.new (o := .tup [.ty u, .ty u2]) g1.s2 hp
  have r2 := r1.mono g.s1
  refine ⟨v, p, _, .type t, [.type u, .type u2], tyB t u || tyB t u2, rfl, upd_same, .cons (.ty u) (.cons (.ty u2) .nil), r2.tyX g.s2 h4, ?_, q _ _ _ (g1.tr w1 g.up) (w1.gr g) (.bl _)⟩
  have k1 : PySem.W.kitOne K (.type t) (.type u) = some (tyB t u) := kit_tyB (D.ty_asked h4) hu
  have k2 : PySem.W.kitOne K (.type t) (.type u2) = some (tyB t u2) := kit_tyB (D.ty_asked h4) hu2
  refine kitAny_cons k1 (fun hb => ?_) (fun hb => by rw [hb]; rfl)
  rw [hb]
  exact kitAny_cons k2 (fun hb => by rw [hb]; exact kitAny_nil) (fun hb => by rw [hb]; rfl)
end
section
variable {X : Cx} {e : Expr} {te : TE} {da : Dn} {pos p p2 p3 p4 : Pos}
theorem ee_isi {y : Str} {u : String} (hu : u ∈ ["int", "str", "tuple", "list", "bool"]) (hg : Gl X "isinstance") (hm : X.mg "isinstance" = none) (hgy : Gl X y) (hmy : X.mg y = none) (hvy : bootBuiltins y = some (.type u)) (ha : EE X e te da) (hny : y ≠ "__name__" := by decide) (hdy : (y == ("__debug__" : Str)) = false := by decide)
    (hs : starEach (e :: [.Name y p2]) X.env = (false, eval e X.env) :: starEach [.Name y p2] X.env := by rfl) (hs2 : starEach [.Name y p2] X.env = (false, eval (.Name y p2) X.env) :: starEach [] X.env := by rfl) (hpl : (backTo pos (starEach [.Name y p2] X.env)).any (fun z => z.1) = false := by rfl) :
    EE X (.Call (.Name "isinstance" p) [e, .Name y p2] [] pos) (tIsi X.kx te (tC (.ty u))) (dUn (isiD u) da) :=
  ⟨pe_callB call_isi hg hm (by decide +kernel) (pa_cons ha.p (pa_cons (pe_bltn (v := .ty u) hgy hmy hvy rfl hny hdy) pa_nil hs2) hs) (by decide) (by decide) hs hpl, sn_isi hu ha.s⟩
theorem ee_isi2 {y z : Str} {u w : String} {k : Nat} (hu : u ∈ ["int", "str", "tuple", "list", "bool"]) (hw : w ∈ ["int", "str", "tuple", "list", "bool"]) (hg : Gl X "isinstance") (hm : X.mg "isinstance" = none) (hgy : Gl X y) (hmy : X.mg y = none) (hvy : bootBuiltins y = some (.type u))
    (hgz : Gl X z) (hmz : X.mg z = none) (hvz : bootBuiltins z = some (.type w)) (ha : EE X e te da) (hny : y ≠ "__name__" := by decide) (hdy : (y == ("__debug__" : Str)) = false := by decide) (hnz : z ≠ "__name__" := by decide) (hdz : (z == ("__debug__" : Str)) = false := by decide)
    (hs : starEach (e :: [.Tuple [.Name y p2, .Name z p3] k p4]) X.env = (false, eval e X.env) :: starEach [.Tuple [.Name y p2, .Name z p3] k p4] X.env := by rfl)
    (hs2 : starEach [.Tuple [.Name y p2, .Name z p3] k p4] X.env = (false, eval (.Tuple [.Name y p2, .Name z p3] k p4) X.env) :: starEach [] X.env := by rfl)
    (hs3 : starEach [.Name y p2, .Name z p3] X.env = (false, eval (.Name y p2) X.env) :: starEach [.Name z p3] X.env := by rfl) (hs4 : starEach [.Name z p3] X.env = (false, eval (.Name z p3) X.env) :: starEach [] X.env := by rfl)
    (hpl : (backTo pos (starEach [.Tuple [.Name y p2, .Name z p3] k p4] X.env)).any (fun z => z.1) = false := by rfl) :
    EE X (.Call (.Name "isinstance" p) [e, .Tuple [.Name y p2, .Name z p3] k p4] [] pos) (tIsi2 X.kx te (tC (.ty u)) (tC (.ty w))) (dUn (isi2D u w) da) :=
  ⟨pe_callB call_isiT hg hm (by decide +kernel) (pa_cons ha.p (pa_cons (pe_tup (pa_cons (pe_bltn (v := .ty u) hgy hmy hvy rfl hny hdy) (pa_cons (pe_bltn (v := .ty w) hgz hmz hvz rfl hnz hdz) pa_nil hs4) hs3)) pa_nil hs2) hs) (by decide) (by decide) hs hpl, sn_isi2 hu hw ha.s⟩
end
end Dl
end
section
set_option Elab.async false
set_option linter.all false
set_option maxRecDepth 100000
set_option maxHeartbeats 4000000
namespace Dl
open PySem PySem.Spec PyProof.Rows L2 StX

/-! what is walked -/
section
variable {K : Kx} {c : Option Addr} {I : Hp}
theorem yl_list {a : Addr} {xs : List V} {ds : List D} (h : I a = some (.lst xs)) (r : RepL K c I xs ds) : Yl K c (Itl K a) I ds := fun I2 H2 sb s => by
  have h2 := sb _ _ h
  have hq : SqL K H2 a xs := .of (s.lst h2)
  refine ⟨fun i d e => ?_, ⟨xs, hq, by rw [r.length]; exact Nat.le_refl _⟩⟩
  obtain ⟨v, hv, rv⟩ := r.get e
  refine ⟨⟨xs, v, hq, hv⟩, fun x H3 hy => ?_⟩
  obtain ⟨rfl, hy⟩ := hy
  have := hy xs hq
  rw [hv] at this
  cases this
  exact ⟨I2, .refl s, rv.mono sb⟩
theorem yl_tup {a : Addr} {xs : List V} {ds : List D} (h : SqT K I a xs) (r : RepL K c I xs ds) : Yl K c (Itt K a) I ds := fun I2 H2 sb s => by
  have hq : SqT K H2 a xs := s.sqT (sb_sqT sb h)
  refine ⟨fun i d e => ?_, ⟨xs, hq, by rw [r.length]; exact Nat.le_refl _⟩⟩
  obtain ⟨v, hv, rv⟩ := r.get e
  refine ⟨⟨xs, v, hq, hv⟩, fun x H3 hy => ?_⟩
  obtain ⟨rfl, hy⟩ := hy
  have := hy xs hq
  rw [hv] at this
  cases this
  exact ⟨I2, .refl s, rv.mono sb⟩
def rngL (lo : Int) (n : Nat) : List D := (List.range n).map fun i => .int (lo + (i : Nat))
theorem yl_rng {lo : Int} {n : Nat} : Yl K c (Itr lo n) I (rngL lo n) := fun I2 H2 sb s => by
  refine ⟨fun i d e => ?_, by show n ≤ _; simp [rngL]⟩
  unfold rngL at e
  rw [List.getElem?_map] at e
  obtain ⟨j, hj, rfl⟩ := map_some_of e
  have hlt : i < n := by
    have := (List.getElem?_eq_some_iff.mp hj).1
    simpa using this
  rw [List.getElem?_range hlt] at hj
  cases hj
  refine ⟨hlt, fun x H3 hy => ?_⟩
  obtain ⟨rfl, rfl⟩ := hy
  exact ⟨I2, .refl s, .int _⟩
def chL (x : Str) : List D := x.cps.toList.map fun k => .str ⟨#[k]⟩
theorem yl_str {x : Str} : Yl K c (Its x) I (chL x) := fun I2 H2 sb s => by
  refine ⟨fun i d e => ?_, by show x.cps.size ≤ _; simp [chL]⟩
  unfold chL at e
  rw [List.getElem?_map] at e
  obtain ⟨j, hj, rfl⟩ := map_some_of e
  have hlt : i < x.cps.size := by
    have := (List.getElem?_eq_some_iff.mp hj).1
    simpa using this
  refine ⟨hlt, fun y H3 hy => ?_⟩
  obtain ⟨rfl, k, hk, rfl⟩ := hy
  have : some j = some k := by rw [← hj, ← hk]; simp
  cases this
  exact ⟨I2, .refl s, .str _⟩
end
def dItL (da : Dn) : Da := fun ρ s => (da ρ s).bind fun p => match p.1 with
  | .lst xs => some (xs, p.2)
  | _ => none
def dItT (da : Dn) : Da := fun ρ s => (da ρ s).bind fun p => p.1.asT.map fun xs => (xs, p.2)
def dItS (da : Dn) : Da := fun ρ s => (da ρ s).bind fun p => match p.1 with
  | .str x => some (chL x, p.2)
  | _ => none
def dRng1 (da : Da) : Da := fun ρ s => (da ρ s).bind fun p => match p.1 with
  | [.int j] => if decide (-1000000 ≤ j ∧ j ≤ 1000000) = true then some (rngL 0 j.toNat, p.2) else none
  | _ => none
def dRng2 (da : Da) : Da := fun ρ s => (da ρ s).bind fun p => match p.1 with
  | [.int i, .int j] => if decide (-1000000 ≤ i ∧ i ≤ 1000000 ∧ -1000000 ≤ j ∧ j ≤ 1000000) = true then some (rngL i (j - i).toNat, p.2) else none
  | _ => none
section
variable {K : Kx} {te : TE} {da : Dn} {tx : TA} {ax : Da}
theorem si_list (h1 : SndE K te da) : SndI K (iList K te) (dItL da) := fun c I H σ ρ s xs s' e h R q => by
  obtain ⟨⟨x, s1⟩, h2, h⟩ := bind_some_of h
  refine h1 _ _ _ _ _ _ _ _ e h2 _ fun v I1 H1 g1 w1 r1 => ?_
  cases r1 with
  | lst hl rl => cases h; exact ⟨_, rfl, ⟨_, .of (g1.s2.lst hl)⟩, q _ I1 H1 g1 w1 (yl_list hl rl)⟩
  | _ => cases h
theorem si_tup (h1 : SndE K te da) : SndI K (iTup K te) (dItT da) := fun c I H σ ρ s xs s' e h R q => by
  obtain ⟨⟨x, s1⟩, h2, h⟩ := bind_some_of h
  obtain ⟨ds, h3, h⟩ := map_some_of h
  cases h
  refine h1 _ _ _ _ _ _ _ _ e h2 _ fun v I1 H1 g1 w1 r1 => ?_
  obtain ⟨a, vs, rfl, ha, ra⟩ := r1.asT h3
  exact ⟨_, rfl, ⟨_, g1.s2.sqT ha⟩, q _ I1 H1 g1 w1 (yl_tup ha ra)⟩
theorem si_str (h1 : SndE K te da) : SndI K (iStr te) (dItS da) := fun c I H σ ρ s xs s' e h R q => by
  obtain ⟨⟨x, s1⟩, h2, h⟩ := bind_some_of h
  refine h1 _ _ _ _ _ _ _ _ e h2 _ fun v I1 H1 g1 w1 r1 => ?_
  cases r1 with
  | str x => cases h; exact ⟨_, rfl, q _ I1 H1 g1 w1 yl_str⟩
  | _ => cases h
theorem si_rng1 (h1 : SndA K tx ax) : SndI K (iRng1 tx) (dRng1 ax) := fun c I H σ ρ s xs s' e h R q => by
  obtain ⟨⟨x, s1⟩, h2, h⟩ := bind_some_of h
  refine h1 _ _ _ _ _ _ _ _ e h2 _ fun v I1 H1 g1 w1 r1 => ?_
  split at h
  · rename_i j hj
    split at h
    · rename_i hb
      have hb := of_decide_eq_true hb
      cases h
      have hj' : x = [D.int j] := hj
      subst hj'
      cases r1 with
      | cons a r => cases r; cases a; exact ⟨j, rfl, by omega, by omega, q _ I1 H1 g1 w1 yl_rng⟩
    · cases h
  · cases h
theorem si_rng2 (h1 : SndA K tx ax) : SndI K (iRng2 tx) (dRng2 ax) := fun c I H σ ρ s xs s' e h R q => by
  obtain ⟨⟨x, s1⟩, h2, h⟩ := bind_some_of h
  refine h1 _ _ _ _ _ _ _ _ e h2 _ fun v I1 H1 g1 w1 r1 => ?_
  split at h
  · rename_i i j hj
    split at h
    · rename_i hb
      have hb := of_decide_eq_true hb
      cases h
      have hj' : x = [D.int i, D.int j] := hj
      subst hj'
      cases r1 with
      | cons a r => cases r with
        | cons b r => cases r; cases a; cases b; exact ⟨i, j, rfl, ⟨by omega, by omega, by omega, by omega⟩, q _ I1 H1 g1 w1 yl_rng⟩
    · cases h
  · cases h
end
section
variable {X : Cx} {tg e a b : Expr} {te : TE} {da : Dn} {tx : TA} {ax : Da} {p pos : Pos}
theorem ei_list (h : EE X e te da) : EI X tg e (iList X.kx te) (dItL da) := ⟨pi_list h.p, si_list h.s⟩
theorem ei_tup (h : EE X e te da) : EI X tg e (iTup X.kx te) (dItT da) := ⟨pi_tup h.p, si_tup h.s⟩
theorem ei_str (h : EE X e te da) : EI X tg e (iStr te) (dItS da) := ⟨pi_str h.p, si_str h.s⟩
theorem ei_rng1 (hg : Gl X "range") (hm : X.mg "range" = none) (ha : EA X [a] tx ax) (hs : starEach [a] X.env = [(false, eval a X.env)] := by rfl) : EI X tg (.Call (.Name "range" p) [a] [] pos) (iRng1 tx) (dRng1 ax) := ⟨pi_range1 hg hm ha.p hs, si_rng1 ha.s⟩
theorem ei_rng2 (hg : Gl X "range") (hm : X.mg "range" = none) (ha : EA X [a, b] tx ax) (hs : starEach [a, b] X.env = [(false, eval a X.env), (false, eval b X.env)] := by rfl) (hs2 : starEach [b] X.env = [(false, eval b X.env)] := by rfl) :
    EI X tg (.Call (.Name "range" p) [a, b] [] pos) (iRng2 tx) (dRng2 ax) := ⟨pi_range2 hg hm ha.p hs hs2, si_rng2 ha.s⟩
theorem et_chain {op op' : CmpOp} {r r' : R2} {f g : D → D → Option D} {x y z : Expr} {t1 t2 t3 : TE} {d1 d2 d3 : Dn} (h : CM X op r f) (h' : CM X op' r' g) (ha : EE X x t1 d1) (hb : EE X y t2 d2) (hc : EE X z t3 d3) (hm : lastMarks [op, op'] [y, z] = false := by with_unfolding_all rfl) :
    ET X (.Compare x [op, op'] [y, z] pos) (tTest (tChain r r' t1 t2 t3)) (dB (dChain f g d1 d2 d3)) := ⟨pt_chain h.o h'.o ha.p hb.p hc.p hm, sn_test (sn_chain ha.s hb.s hc.s h.s h'.s)⟩
end

/-! comprehensions -/
def wipeD (ρ : List Sl) : List Nat → List Sl
  | [] => ρ
  | v :: vs => (wipeD ρ vs).set v .un
section
variable {K : Kx} {c : Option Addr} {I H : Hp}
theorem SlL.wipe {σ : L2.St} {ρ : List Sl} (h : SlL K c I H σ ρ) : ∀ vs, SlL K c I H (L2.wipe σ vs) (wipeD ρ vs)
  | [] => h
  | v :: vs => .set (.un _) v (SlL.wipe h vs)
theorem Uq.wipe {σ : L2.St} {ρ : List Sl} (h : Uq σ ρ) : ∀ vs, Uq (L2.wipe σ vs) (wipeD ρ vs)
  | [] => h
  | v :: vs => (Uq.wipe h vs).setI fun _ z => by cases z
theorem Ec.wipe {σ : L2.St} {ρ : List Sl} {s : Tau} (e : Ec K c I H σ ρ s) (vs : List Nat) : Ec K c I H (L2.wipe σ vs) (wipeD ρ vs) s := ⟨e.sub, e.w, e.sl.wipe vs, e.uq.wipe vs⟩
theorem wipe_get (σ : L2.St) (k : Nat) : ∀ vs : List Nat, (L2.wipe σ vs)[k]? = if k ∈ vs ∧ k < σ.length then some none else σ[k]?
  | [] => by simp [L2.wipe]
  | v :: vs => by
    show ((L2.wipe σ vs).set v none)[k]? = _
    rw [List.getElem?_set, wipe_get σ k vs, L2.wipe_length]
    by_cases h : v = k
    · subst h
      by_cases h2 : v < σ.length
      · simp [h2]
      · simp [h2]
    · have : k ≠ v := fun z => h z.symm
      simp [h, this]
theorem wipe_wipe {σ σ' : L2.St} {vs js : List Nat} (hl : σ'.length = (L2.wipe σ vs).length) (hk : ∀ k, k ∉ js → σ'[k]? = (L2.wipe σ vs)[k]?) (hj : ∀ k ∈ js, k ∈ vs) : L2.wipe σ' vs = L2.wipe σ vs := by
  rw [L2.wipe_length] at hl
  apply List.ext_getElem?
  intro k
  rw [wipe_get, wipe_get, hl]
  by_cases h : k ∈ vs ∧ k < σ.length
  · rw [if_pos h, if_pos h]
  · rw [if_neg h, if_neg h]
    by_cases h2 : k ∈ js
    · have h3 := hj k h2
      have h4 : ¬ k < σ.length := fun z => h ⟨h3, z⟩
      rw [List.getElem?_eq_none (by omega), List.getElem?_eq_none (by omega)]
    · rw [hk k h2, wipe_get, if_neg h]
end
def lcGo (g : Dg) (bt : Dt) (de : Dn) (ρ : List Sl) : List D → Tau → Option (List D × Tau)
  | [], s => some ([], s)
  | x :: xs, s => (g x ρ).bind fun ρ1 => (bt ρ1 s).bind fun b => if b.1 = true then (de ρ1 b.2).bind fun y => (lcGo g bt de ρ xs y.2).map fun r => (y.1 :: r.1, r.2) else lcGo g bt de ρ xs b.2
theorem lcGo_len {g : Dg} {bt : Dt} {de : Dn} {ρ : List Sl} : ∀ {xs : List D} {s : Tau} {ys : List D} {s' : Tau}, lcGo g bt de ρ xs s = some (ys, s') → ys.length ≤ xs.length
  | [], s, ys, s', h => by cases h; exact Nat.le_refl _
  | x :: xs, s, ys, s', h => by
    obtain ⟨ρ1, _, h⟩ := bind_some_of h
    obtain ⟨⟨b, s1⟩, _, h⟩ := bind_some_of h
    split at h
    · obtain ⟨⟨y, s2⟩, _, h⟩ := bind_some_of h
      obtain ⟨⟨r, s3⟩, h3, h⟩ := map_some_of h
      cases h
      have := lcGo_len h3
      simp only [List.length_cons]; omega
    · have := lcGo_len h
      simp only [List.length_cons]; omega
def dLc (di : Da) (g : Dg) (bt : Dt) (de : Dn) (vs : List Nat) : Dn := fun ρ s => (di ρ s).bind fun p => if p.1.length ≤ 1000000 then (lcGo g bt de (wipeD ρ vs) p.1 p.2).map fun r => (.lst r.1, r.2) else none
def dYes : Dt := fun _ s => some (true, s)
theorem sn_yes {K : Kx} : SndT K tYes dYes := fun c I H σ ρ s b s' e h Q q => by
  cases h
  exact q _ _ (.refl e.sub) e.w
/-- what is walked, where nothing but the draws' list changes -/
def YlK (K : Kx) (c : Option Addr) (J : It) (I H : Hp) (xs : List D) : Prop := ∀ I2 H2, Sb I I2 → Sub I2 H2 → Kp c H H2 →
  (∀ (i : Nat) (d : D), xs[i]? = some d → J.go i H2 ∧ ∀ x H3, J.yld i H2 x H3 → ∃ I3, Gr none I2 H2 I3 H3 ∧ Rep K c I3 x d) ∧ J.stop xs.length H2
theorem lc_core {K : Kx} {wi : TI} {di : Da} {g : TG} {dg : Dg} {js vs : List Nat} {tt : TT} {bt : Dt} {te : TE} {de : Dn} (hg : SndG K g dg js) (hj : ∀ k ∈ js, k ∈ vs) (ht : SndT K tt bt) (he : SndE K te de)
    {c : Option Addr} {I H : Hp} {σ : L2.St} {ρ : List Sl} {s s' : Tau} {d : D} (e : Ec K c I H σ ρ s) (hi : ∀ xs s1, di ρ s = some (xs, s1) → ∀ R : It → Hp → Prop, (∀ J I' H', Gr c I H I' H' → DW K c s1 I' H' → YlK K c J I' H' xs → R J H') → wi σ H R)
    (h : dLc di dg bt de vs ρ s = some (d, s')) (Q : VK) (q : ∀ v I' H', Gr c I H I' H' → DW K c s' I' H' → Rep K c I' v d → Q v H') : tLc wi g tt te vs σ H Q := by
  obtain ⟨⟨xs, s1⟩, h1, h⟩ := bind_some_of h
  split at h
  · rename_i hlen
    have hlen : xs.length ≤ 1000000 := hlen
    obtain ⟨⟨ys, s2⟩, h2, h⟩ := map_some_of h
    cases h
    refine hi _ _ h1 _ fun J I1 H1 g1 w1 yl => fun Dl hD => ?_
    have ci : ∀ {o}, c ≠ some Dl ∨ o := fun {o} => by
      by_cases z : c = some Dl
      · obtain ⟨_, sc, z2, _⟩ := w1 Dl z
        rw [hD] at z2; cases z2
      · exact .inl z
    have cD : c ≠ some Dl := (ci (o := False)).elim id False.elim
    refine ⟨fun i m H' => m = xs.length - i ∧ i ≤ xs.length ∧ ∃ I' acc pre rest s3, Gr c I1 H1 I' H' ∧ I' Dl = none ∧ DW K c s3 I' H' ∧ H' Dl = some (.lst acc) ∧ RepL K c I' acc pre ∧ acc.length ≤ i ∧ lcGo dg bt de (wipeD ρ vs) (xs.drop i) s3 = some (rest, s2) ∧ pre ++ rest = ys, ?_, ?_⟩
    · have hI := g1.s2.free hD
      have s2' : Sub I1 (upd H1 Dl (.lst [])) := fun a o z => by
        have n : a ≠ Dl := ne_of_none z hI
        rw [upd_ne n]
        exact g1.s2 a o z
      refine ⟨xs.length, by simp, Nat.zero_le _, I1, [], [], ys, s1, ⟨.refl _, s2', fun a o _ z => by rw [upd_ne (ne_of_none z hD)]; exact z, fun a z => .inl z⟩, hI, ?_, upd_same, .nil, Nat.le_refl _, by simpa using h2, rfl⟩
      intro r hr
      obtain ⟨z1, sc, z2, z3⟩ := w1 r hr
      exact ⟨z1, sc, by rw [upd_ne (ne_of_none z2 hD)]; exact z2, z3⟩
    · rintro i m H' ⟨rfl, hle, I', acc, pre, rest, s3, g', hID, w', hDl, racc, hal, hgo, hy⟩
      have kI : Kp c H1 H' := g'.kp
      obtain ⟨y1, y2⟩ := yl I' H' g'.s1 g'.s2 kI
      by_cases hlt : i < xs.length
      · obtain ⟨go, yld⟩ := y1 i xs[i] (List.getElem?_eq_getElem hlt)
        rw [List.drop_eq_getElem_cons hlt] at hgo
        obtain ⟨ρ1, hx, hgo⟩ := bind_some_of hgo
        obtain ⟨⟨b, s4⟩, hb, hgo⟩ := bind_some_of hgo
        refine .inr ⟨go, fun H'' => ∃ I'' acc pre rest s3, Gr c I1 H1 I'' H'' ∧ I'' Dl = none ∧ DW K c s3 I'' H'' ∧ H'' Dl = some (.lst acc) ∧ RepL K c I'' acc pre ∧ acc.length ≤ i + 1 ∧ lcGo dg bt de (wipeD ρ vs) (xs.drop (i + 1)) s3 = some (rest, s2) ∧ pre ++ rest = ys, fun H'' ⟨I'', a1, a2, a3, a4, z⟩ => ⟨xs.length - (i + 1), by omega, rfl, hlt, I'', a1, a2, a3, a4, z⟩, fun x H3 hyl => ?_⟩
        obtain ⟨I3, g3, r3⟩ := yld x H3 hyl
        have w3 := w'.gr g3
        have g13 := g'.tr w' (g3.up (c := c))
        have fr : ∀ {Ia Ha Ib Hb : Hp}, Gr c Ia Ha Ib Hb → Ia Dl = none → Ha Dl = some (.lst acc) → Ib Dl = none ∧ Hb Dl = some (.lst acc) := fun {Ia Ha Ib Hb} gg z1 z2 => by
          refine ⟨?_, gg.kp _ _ cD z2⟩
          cases qq : Ib Dl with
          | none => rfl
          | some o =>
            rcases gg.nw Dl (by rw [qq]; simp) with z | z
            · exact absurd z1 z
            · rw [z2] at z; cases z
        obtain ⟨f3, k3⟩ := fr (g3.up (c := c)) hID hDl
        have e3 : Ec K c I3 H3 (L2.wipe σ vs) (wipeD ρ vs) s3 := ((e.grow g1 w1).grow g13 w3).wipe vs
        refine hg _ _ _ _ _ _ _ _ _ e3 r3 hx _ fun σ4 e4 l4 n4 _ => ⟨wipe_wipe l4 n4 hj, ?_⟩
        refine ht _ _ _ _ _ _ _ _ e4 hb _ fun I5 H5 g5 w5 => ?_
        obtain ⟨f5, k5⟩ := fr g5 f3 k3
        have g15 := g13.tr w3 g5
        cases b with
        | false =>
          rw [if_neg Bool.false_ne_true]
          rw [if_neg (show ¬ (false, s4).1 = true from Bool.false_ne_true)] at hgo
          exact ⟨I5, acc, pre, rest, s4, g15, f5, w5, k5, (racc.mono g3.s1).mono g5.s1, by omega, hgo, hy⟩
        | true =>
          rw [if_pos rfl]
          rw [if_pos (show (true, s4).1 = true from rfl)] at hgo
          obtain ⟨⟨y, s6⟩, hye, hgo⟩ := bind_some_of hgo
          obtain ⟨⟨rest', s7⟩, hgo2, hr⟩ := map_some_of hgo
          cases hr
          refine he _ _ _ _ _ _ _ _ (e4.grow g5 w5) hye _ fun yv I6 H6 g6 w6 r6 => ?_
          obtain ⟨f6, k6⟩ := fr g6 f5 k5
          have g16 := g15.tr w5 g6
          refine ⟨acc, k6, ?_, I6, acc ++ [yv], pre ++ [y], rest', s6, ?_, f6, ?_, upd_same, (((racc.mono g3.s1).mono g5.s1).mono g6.s1).app (.one r6), by rw [List.length_append]; simp only [List.length_cons, List.length_nil]; omega, hgo2, by rw [List.append_assoc]; exact hy⟩
          · refine Nat.lt_of_le_of_lt (show acc.length ≤ 1000000 by omega) (by decide)
          · refine ⟨g16.s1, fun a o z => ?_, fun a o n z => ?_, g16.nw⟩
            · rw [upd_ne (ne_of_none z f6)]; exact g16.s2 a o z
            · rw [upd_ne (ne_of_none z hD)]; exact g16.kp a o n z
          · intro r hr
            obtain ⟨z1, sc, z2, z3⟩ := w6 r hr
            have n : r ≠ Dl := fun z => cD (by rw [hr, z])
            exact ⟨z1, sc, by rw [upd_ne n]; exact z2, z3⟩
      · have ei : i = xs.length := by omega
        subst ei
        rw [List.drop_length] at hgo
        cases hgo
        rw [List.append_nil] at hy
        subst hy
        refine .inl ⟨y2, ?_⟩
        have sI : Sb I' (upd I' Dl (.lst acc)) := fun a o z => by rw [upd_ne (ne_of_none z hID)]; exact z
        refine q _ (upd I' Dl (.lst acc)) H' (g1.tr w1 ⟨g'.s1.trans sI, fun a o z => ?_, g'.kp, fun a z => ?_⟩) ?_ (.lst upd_same (racc.mono sI))
        · by_cases n : a = Dl
          · subst n; rw [upd_same] at z; cases z; exact .inl hDl
          · rw [upd_ne n] at z; exact g'.s2 a o z
        · by_cases n : a = Dl
          · subst n; exact .inr hD
          · rw [upd_ne n] at z; exact g'.nw a z
        · intro r hr
          obtain ⟨z1, sc, z2, z3⟩ := w' r hr
          have n : r ≠ Dl := fun z => cD (by rw [hr, z])
          exact ⟨by rw [upd_ne n]; exact z1, sc, z2, sb_sqL sI z3⟩
  · cases h
theorem sn_lc {K : Kx} {wi : TI} {di : Da} {g : TG} {dg : Dg} {js vs : List Nat} {tt : TT} {bt : Dt} {te : TE} {de : Dn} (hi : SndI K wi di) (hg : SndG K g dg js) (hj : ∀ k ∈ js, k ∈ vs) (ht : SndT K tt bt) (he : SndE K te de) : SndE K (tLc wi g tt te vs) (dLc di dg bt de vs) := fun c I H σ ρ s d s' e h Q q =>
  lc_core hg hj ht he e (fun xs s1 h1 R r => hi _ _ _ _ _ _ _ _ e h1 R fun J I' H' g w y => r J I' H' g w fun I2 H2 a b _ => y I2 H2 a b) h Q q
end Dl
end
section
set_option Elab.async false
set_option linter.all false
set_option maxRecDepth 100000
set_option maxHeartbeats 4000000
namespace Dl
open PySem PySem.Spec PyProof.Rows L2 StX

/-! statements -/
section
variable {X : Cx} {st : Stmt} {sts : List Stmt} {t u : TS} {a b : Ds} {e : Expr} {te : TE} {da : Dn} {pos : Pos}
theorem ess_nil : ESs X [] tNext dNext := ⟨pss_nil, ss_next⟩
theorem ess_cons (h1 : ES X st t a) (h2 : ESs X sts u b) : ESs X (st :: sts) (tSeq t u) (dSeq a b) := ⟨pss_cons h1.p h2.p, ss_seq h1.s h2.s⟩
theorem ess_one (h1 : ES X st t a) : ESs X [st] t a := ⟨pss_one h1.p, h1.s⟩
theorem es_expr (he : EE X e te da) (hs : swapsWith e none pos.line X.env = pure false := by rfl) : ES X (.Expr e pos) (tDrop te) (dDrop da) := ⟨ps_expr he.p hs, ss_drop he.s⟩
theorem es_ret (he : EE X e te da) : ES X (.Return (some e) pos) (tRet te) (dRet da) := ⟨ps_ret he.p, ss_ret he.s⟩
theorem es_retN : ES X (.Return none pos) tRetN dRetN := ⟨ps_retN, ss_retN⟩
theorem es_if {c : Expr} {x y : List Stmt} {tc : TT} {bt : Dt} (hc : ET X c tc bt) (ha : ESs X x t a) (hb : ESs X y u b) : ES X (.If c x y pos) (tIfS tc t u) (dIfS bt a b) := ⟨ps_if hc.p ha.p hb.p, ss_if hc.s ha.s hb.s⟩
theorem es_never : ES X st tNever dNever := ⟨ps_never, ss_never⟩
theorem ess_never : ESs X sts tNever dNever := ⟨pss_never, ss_never⟩
theorem es_asg {tg : Expr} {g : TG} {dg : Dg} {js : List Nat} (he : EE X e te da) (hg : EG X tg g dg js) (hs : swapsWithSole [tg] e pos.line X.env = pure false := by rfl) (hw : swappedStores [tg] e X.env = pure none := by rfl) (h1 : (assignEach [tg] X.env).map (fun z => z.2) = [assign tg X.env] := by rfl) : ES X (.Assign [tg] e pos) (tAsg te g) (dAsg da dg) :=
  ⟨ps_asg he.p hg.p hs hw h1, ss_asg he.s hg.s⟩
theorem es_set {i : Nat} {x : Str} {pos' : Pos} (hN : X.N.Nodup) (hi : X.N[i]? = some x) (hx : Loc X.env.scope x) (he : EE X e te da) (hs : swapsWith e (some (.Name x pos')) pos.line X.env = pure false := by rfl) (hf : X.fn x = true ∨ X.env.scope.names.lookup x = some .local := by first | exact .inl rfl | exact .inr rfl) :
    ES X (.Assign [.Name x pos'] e pos) (tAsg te (gName i)) (dAsg da (gdName i)) := ⟨ps_set hN hi hx he.p hs hf, ss_asg he.s (sg_name i)⟩
theorem es_for {tg it : Expr} {body : List Stmt} {wi : TI} {di : Da} {g : TG} {dg : Dg} {js : List Nat} (hp : PassesOwn (model X.prog X.w) X.A X.env X.xe) (hc : X.calm = true) (hi : EI X tg it wi di) (hg : EG X tg g dg js) (hb : ESs X body t b) (hfs : ∀ x, foldedSetIterable it X.env x = pure x := by intro _; rfl) :
    ES X (.For tg it body [] pos) (tFor wi g t) (dFor di dg b) := ⟨ps_for hp hc hi.p hg.p hb.p hfs, ss_for hi.s hg.s hb.s⟩
/-- a, b = x, y by plain local names -/
def dPar (i j : Nat) (ax : Da) : Ds := fun ρ s => (ax ρ s).bind fun p => match p.1 with
  | [x, y] => some (.nx ((ρ.set i (.im x)).set j (.im y)), p.2)
  | _ => none
def dPar3 (i j l : Nat) (ax : Da) : Ds := fun ρ s => (ax ρ s).bind fun p => match p.1 with
  | [x, y, z] => some (.nx (((ρ.set i (.im x)).set j (.im y)).set l (.im z)), p.2)
  | _ => none
theorem EnvS.setI {K : Kx} {c : Option Addr} {I0 H0 I H : Hp} {σ : L2.St} {ρ : List Sl} {s : Tau} {v : V} {d : D} (e : EnvS K c I0 H0 I H σ ρ s) (r : Rep K c I v d) (i : Nat) : EnvS K c I0 H0 I H (σ.set i (some v)) (ρ.set i (.im d)) s :=
  ⟨e.env.setI r i, e.s0, e.kp, e.nw, fun j p d' h1 h2 => by
    by_cases z : i = j
    · subst z
      rw [List.getElem?_set] at h2
      simp only [if_true] at h2
      split at h2 <;> cases h2
    · rw [List.getElem?_set_ne z] at h1 h2
      exact e.fr j p d' h1 h2, e.nc⟩
theorem ss_par {K : Kx} {tx : TA} {ax : Da} (i j : Nat) (hx : SndA K tx ax) : SndS K (tPar i j tx) (dPar i j ax) := fun c I0 H0 I H σ ρ s o s' e h D q => by
  obtain ⟨⟨x, s1⟩, ha, h⟩ := bind_some_of h
  refine hx _ _ _ _ _ _ _ _ e.env ha _ fun v I1 H1 g1 w1 r1 => ?_
  split at h
  · rename_i p q1 q2 hq
    have hq : x = [q1, q2] := hq
    subst hq
    cases h
    cases r1 with
    | cons ra r => cases r with
      | cons rb r => cases r; exact ⟨_, _, rfl, q _ I1 H1 (((e.grow g1 w1).setI ra i).setI rb j)⟩
  · cases h
theorem ss_par3 {K : Kx} {tx : TA} {ax : Da} (i j l : Nat) (hx : SndA K tx ax) : SndS K (tPar3 i j l tx) (dPar3 i j l ax) := fun c I0 H0 I H σ ρ s o s' e h D q => by
  obtain ⟨⟨x, s1⟩, ha, h⟩ := bind_some_of h
  refine hx _ _ _ _ _ _ _ _ e.env ha _ fun v I1 H1 g1 w1 r1 => ?_
  split at h
  · rename_i p q1 q2 q3 hq
    have hq : x = [q1, q2, q3] := hq
    subst hq
    cases h
    cases r1 with
    | cons ra r => cases r with
      | cons rb r => cases r with
        | cons rc r => cases r; exact ⟨_, _, _, rfl, q _ I1 H1 ((((e.grow g1 w1).setI ra i).setI rb j).setI rc l)⟩
  · cases h
theorem es_par {i j : Nat} {x y : Str} {e1 e2 : Expr} {tx : TA} {ax : Da} {px py pt pt2 : Pos} {kt k2 : Nat} (hc : X.calm = true) (hN : X.N.Nodup) (hi : X.N[i]? = some x) (hj : X.N[j]? = some y) (hij : i ≠ j)
    (hx : X.env.scope.names.lookup x = some .local) (hy : X.env.scope.names.lookup y = some .local) (ha : EA X [e1, e2] tx ax)
    (hw : swappedStores [.Tuple [.Name x px, .Name y py] kt pt] (.Tuple [e1, e2] k2 pt2) X.env = pure (some [x, y]) := by rfl)
    (hs : swapsWithSole [.Tuple [.Name x px, .Name y py] kt pt] (.Tuple [e1, e2] k2 pt2) pos.line X.env = pure false := by rfl) :
    ES X (.Assign [.Tuple [.Name x px, .Name y py] kt pt] (.Tuple [e1, e2] k2 pt2) pos) (tPar i j tx) (dPar i j ax) := ⟨ps_par hc hN hi hj hij hx hy ha.p hw hs, ss_par i j ha.s⟩
end

/-! a comprehension in its def -/
section
variable {X : Cx}
structure EGb (X : Cx) (scope : Scope) (e : Expr) (g : TG) (dg : Dg) (js : List Nat) : Prop where
  p : ∀ (s : Shared) (H : Hp) (C : Addr) (cl : List (Str × Addr)) (fp : List Addr), PG (X.blk s H scope (compEnvC scope cl C X.env) fp) e g
  s : SndG X.kx g dg js
structure ETb (X : Cx) (scope : Scope) (ifs : List Expr) (tt : TT) (bt : Dt) : Prop where
  p : ∀ (s : Shared) (H : Hp) (C : Addr) (cl : List (Str × Addr)) (fp : List Addr), PTs (X.blk s H scope (compEnvC scope cl C X.env) fp) ifs tt
  s : SndT X.kx tt bt
structure EEb (X : Cx) (scope : Scope) (e : Expr) (te : TE) (de : Dn) : Prop where
  p : ∀ (s : Shared) (H : Hp) (C : Addr) (cl : List (Str × Addr)) (fp : List Addr), PE (X.blk s H scope (compEnvC scope cl C X.env) fp) e te
  s : SndE X.kx te de
theorem egb_mk {scope : Scope} {e : Expr} {g : Shared → Hp → Addr → List (Str × Addr) → List Addr → TG} {dg : Dg} {js : List Nat} (h : ∀ (s : Shared) (H : Hp) (C : Addr) (cl : List (Str × Addr)) (fp : List Addr), EG (X.blk s H scope (compEnvC scope cl C X.env) fp) e (g s H C cl fp) dg js) (hg : ∀ (s : Shared) (H : Hp) (C : Addr) (cl : List (Str × Addr)) (fp : List Addr), g s H C cl fp = g X.s_0 (fun _ => none) 0 [] [] := by intros; rfl) : EGb X scope e (g X.s_0 (fun _ => none) 0 [] []) dg js :=
  ⟨fun s H C cl fp => hg s H C cl fp ▸ (h s H C cl fp).p, (h X.s_0 (fun _ => none) 0 [] []).s⟩
theorem etb_one {scope : Scope} {e : Expr} {tt : Shared → Hp → Addr → List (Str × Addr) → List Addr → TT} {bt : Dt} (h : ∀ (s : Shared) (H : Hp) (C : Addr) (cl : List (Str × Addr)) (fp : List Addr), ET (X.blk s H scope (compEnvC scope cl C X.env) fp) e (tt s H C cl fp) bt) (hg : ∀ (s : Shared) (H : Hp) (C : Addr) (cl : List (Str × Addr)) (fp : List Addr), tt s H C cl fp = tt X.s_0 (fun _ => none) 0 [] [] := by intros; rfl) : ETb X scope [e] (tt X.s_0 (fun _ => none) 0 [] []) bt :=
  ⟨fun s H C cl fp => hg s H C cl fp ▸ pts_one (h s H C cl fp).p, (h X.s_0 (fun _ => none) 0 [] []).s⟩
theorem etb_nil {scope : Scope} : ETb X scope [] tYes dYes := ⟨fun _ _ _ _ _ => pts_nil, sn_yes⟩
theorem eeb_mk {scope : Scope} {e : Expr} {te : Shared → Hp → Addr → List (Str × Addr) → List Addr → TE} {de : Dn} (h : ∀ (s : Shared) (H : Hp) (C : Addr) (cl : List (Str × Addr)) (fp : List Addr), EE (X.blk s H scope (compEnvC scope cl C X.env) fp) e (te s H C cl fp) de) (hg : ∀ (s : Shared) (H : Hp) (C : Addr) (cl : List (Str × Addr)) (fp : List Addr), te s H C cl fp = te X.s_0 (fun _ => none) 0 [] [] := by intros; rfl) : EEb X scope e (te X.s_0 (fun _ => none) 0 [] []) de :=
  ⟨fun s H C cl fp => hg s H C cl fp ▸ (h s H C cl fp).p, (h X.s_0 (fun _ => none) 0 [] []).s⟩
theorem ee_lc {elt tg iter : Expr} {ifs : List Expr} {scope : Scope} {own : List (Str × Nat)} {pos : Pos} {wi : TI} {di : Da} {g : TG} {dg : Dg} {js : List Nat} {tt : TT} {bt : Dt} {te : TE} {de : Dn} (hc : X.calm = true) (hN : X.N.Nodup) (hi : EI X tg iter wi di)
    (ok : blkC X.N X.env.scope scope own = true) (hg : EGb X scope tg g dg js) (ht : ETb X scope ifs tt bt) (he : EEb X scope elt te de) (hj : ∀ k ∈ js, k ∈ own.map (fun z => z.2) := by decide) (hs : ∀ x, foldedSetIterable iter X.env x = pure x := by intro _; rfl) :
    EE X (.ListComp elt [⟨tg, iter, ifs, 0⟩] scope pos) (tLc wi g tt te (own.map (fun z => z.2))) (dLc di dg bt de (own.map (fun z => z.2))) :=
  ⟨pe_lc hc hN hi.p (blkOk_by ok) hg.p ht.p he.p hs, sn_lc hi.s hg.s hj ht.s he.s⟩
/-- name = [..] on one line -/
theorem es_lc {i : Nat} {y : Str} {py : Pos} {elt tg iter : Expr} {ifs : List Expr} {scope : Scope} {own : List (Str × Nat)} {pos spos : Pos} {wi : TI} {di : Da} {g : TG} {dg : Dg} {js : List Nat} {tt : TT} {bt : Dt} {te : TE} {de : Dn} (hc : X.calm = true) (hN : X.N.Nodup) (hy : X.N[i]? = some y) (hyl : X.env.scope.names.lookup y = some .local)
    (hsw : swapsWith (.ListComp elt [⟨tg, iter, ifs, 0⟩] scope pos) (some (.Name y py)) spos.line X.env = pure true) (hi : EI X tg iter wi di)
    (ok : blkC X.N X.env.scope scope own = true) (hg : EGb X scope tg g dg js) (ht : ETb X scope ifs tt bt) (he : EEb X scope elt te de) (hj : ∀ k ∈ js, k ∈ own.map (fun z => z.2) := by decide) (hs : ∀ x, foldedSetIterable iter X.env x = pure x := by intro _; rfl) :
    ES X (.Assign [.Name y py] (.ListComp elt [⟨tg, iter, ifs, 0⟩] scope pos) spos) (tAsg (tLc wi g tt te (own.map (fun z => z.2))) (gName i)) (dAsg (dLc di dg bt de (own.map (fun z => z.2))) (gdName i)) :=
  ⟨ps_setLc hc hN hy hyl hsw hi.p (blkOk_by ok) hg.p ht.p he.p hs, ss_asg (sn_lc hi.s hg.s hj ht.s he.s) (sg_name i)⟩
end

/-! the draws -/
def dRw (i : Nat) (j : Nat) : Dn := fun ρ s => match ρ[i]? with
  | some (.im .rw) => (match j with
    | 0 => some (.sl s.ns, s)
    | 1 => some (.int s.a, s)
    | 2 => some (.int s.b, s)
    | 3 => some (.int s.c, s)
    | _ => none)
  | _ => none
def Tau.put (s : Tau) (j : Nat) (v : Int) : Option Tau := match j with
  | 1 => some { s with a := v }
  | 2 => some { s with b := v }
  | 3 => some { s with c := v }
  | _ => none
def dRwSet (i j : Nat) (da : Dn) : Ds := fun ρ s => (da ρ s).bind fun p => match p.1, ρ[i]? with
  | .int v, some (.im .rw) => (p.2.put j v).map fun s' => (.nx ρ, s')
  | _, _ => none
section
variable {K : Kx} {te : TE} {da : Dn}
theorem rw_at {c : Option Addr} {I H : Hp} {σ : L2.St} {ρ : List Sl} {s : Tau} {i : Nat} (e : Ec K c I H σ ρ s) (h : ρ[i]? = some (.im .rw)) : ∃ r sc, c = some r ∧ σ[i]? = some (some (V.ref r)) ∧ I r = none ∧ H r = some (.lst [.ref sc, .int s.a, .int s.b, .int s.c]) ∧ SqL K I sc (s.ns.map V.int) := by
  obtain ⟨v, h1, r1⟩ := e.imm h
  cases r1 with
  | rw hc =>
    obtain ⟨z1, sc, z2, z3⟩ := e.w _ hc
    exact ⟨_, sc, hc, h1, z1, z2, z3⟩
theorem sn_rw (i j : Nat) : SndE K (tOp (rIx K) (tVar i) (tC (.int (j : Nat)))) (dRw i j) := fun c I H σ ρ s d s' e h Q q => by
  unfold dRw at h
  split at h
  · rename_i hi
    obtain ⟨r, sc, hc, h1, hI, hH, hS⟩ := rw_at e hi
    refine ⟨_, h1, .inl ⟨r, [.ref sc, .int s.a, .int s.b, .int s.c], (j : Nat), ?_⟩⟩
    match j, h with
    | 0, h => cases h; exact ⟨_, rfl, rfl, .of hH, rfl, q _ I H (.refl e.sub) e.w (.sl hS)⟩
    | 1, h => cases h; exact ⟨_, rfl, rfl, .of hH, rfl, q _ I H (.refl e.sub) e.w (.int _)⟩
    | 2, h => cases h; exact ⟨_, rfl, rfl, .of hH, rfl, q _ I H (.refl e.sub) e.w (.int _)⟩
    | 3, h => cases h; exact ⟨_, rfl, rfl, .of hH, rfl, q _ I H (.refl e.sub) e.w (.int _)⟩
    | j + 4, h => cases h
  · cases h
theorem ss_rw (i j : Nat) (h1 : SndE K te da) : SndS K (tAsg te (gSub (tVar i) (tC (.int (j : Nat))) rSetL)) (dRwSet i j da) := fun c I0 H0 I H σ ρ s o s' e h D q => by
  obtain ⟨⟨x, s1⟩, ha, h⟩ := bind_some_of h
  refine h1 _ _ _ _ _ _ _ _ e.env ha _ fun v I1 H1 g1 w1 r1 => ?_
  split at h
  · rename_i k hk hi
    obtain ⟨s2, hp, h⟩ := map_some_of h
    cases h
    have hk : x = .int k := hk
    subst hk
    have e1 := e.grow g1 w1
    obtain ⟨r, sc, hc, hr, hI, hH, hS⟩ := rw_at e1.env hi
    cases r1
    have fin : ∀ zs, zs = [V.ref sc, .int s'.a, .int s'.b, .int s'.c] → s'.ns = s1.ns → D.nx σ (upd H1 r (.lst zs)) := fun zs hz hns => by
      subst hz
      refine q σ I1 _ (e1.grow ⟨.refl _, fun a o z => ?_, fun a o n z => ?_, fun a z => .inl z⟩ fun r' hr' => ?_)
      · rw [upd_ne (ne_of_none z hI)]; exact g1.s2 a o z
      · rw [upd_ne (fun z => n (by rw [hc, z]))]; exact z
      · rw [hc] at hr'
        cases hr'
        exact ⟨hI, sc, upd_same, by rw [hns]; exact hS⟩
    refine ⟨_, hr, r, _, (j : Nat), j, rfl, rfl, hH, ?_⟩
    match j, hp with
    | 1, hp => cases hp; exact ⟨rfl, fin _ rfl rfl⟩
    | 2, hp => cases hp; exact ⟨rfl, fin _ rfl rfl⟩
    | 3, hp => cases hp; exact ⟨rfl, fin _ rfl rfl⟩
  · cases h
end
section
variable {X : Cx} {te : TE} {da : Dn} {x : Str} {e : Expr} {p p2 p3 pos : Pos} {i j k : Nat}
theorem ee_rw (hN : X.N[i]? = some x := by rfl) (hv : Vis X.env.scope x := by first | exact Or.inl rfl | exact Or.inr (Or.inl rfl) | exact Or.inr (Or.inr rfl)) (hd : (x == ("__debug__" : Str)) = false := by decide) (hcd : (x == ("__classdict__" : Str)) = false := by decide) :
    EE X (.Subscript (.Name x p) (.Constant (.int (j : Nat)) k p2) pos) (tOp (rIx X.kx) (tVar i) (tC (.int (j : Nat)))) (dRw i j) := ⟨pe_ix ix_seq (pe_var hN hv hd hcd) pe_int (fun _ _ => rfl), sn_rw i j⟩
theorem es_rw (he : EE X e te da) (hN : X.N[i]? = some x := by rfl) (hv : Vis X.env.scope x := by first | exact Or.inl rfl | exact Or.inr (Or.inl rfl) | exact Or.inr (Or.inr rfl)) (hd : (x == ("__debug__" : Str)) = false := by decide) (hcd : (x == ("__classdict__" : Str)) = false := by decide)
    (hs : swapsWithSole [.Subscript (.Name x p) (.Constant (.int (j : Nat)) k p2) p3] e pos.line X.env = pure false := by rfl) (hw : swappedStores [.Subscript (.Name x p) (.Constant (.int (j : Nat)) k p2) p3] e X.env = pure none := by rfl)
    (h1 : (assignEach [.Subscript (.Name x p) (.Constant (.int (j : Nat)) k p2) p3] X.env).map (fun z => z.2) = [assign (.Subscript (.Name x p) (.Constant (.int (j : Nat)) k p2) p3) X.env] := by rfl) :
    ES X (.Assign [.Subscript (.Name x p) (.Constant (.int (j : Nat)) k p2) p3] e pos) (tAsg te (gSub (tVar i) (tC (.int (j : Nat))) rSetL)) (dRwSet i j da) :=
  ⟨ps_asg he.p (pg_sub (pe_var hN hv hd hcd) pe_int set_list) hs hw h1, ss_rw i j he.s⟩
end

/-! defs -/
abbrev Fn := List D → Tau → Option ((D × Bool) × Tau)
def ResOk (K : Kx) (c : Option Addr) (I' H' H : Hp) (v : V) (d : D) : Bool → Prop
  | false => Rep K c I' v d
  | true => ∃ p, v = .ref p ∧ OwOk K c I' H' p d ∧ H p = none
def spG (K : Kx) (n : Nat) (f : Fn) : Sp := fun vs H Q _ => vs.length = n ∧ ∃ c I ds s d o s', RepL K c I vs ds ∧ Sub I H ∧ DW K c s I H ∧ f ds s = some ((d, o), s') ∧
  ∀ v I' H', Gr c I H I' H' → DW K c s' I' H' → ResOk K c I' H' H v d o → Q v H'
def fnD (m : Nat) (dn : Ds) : Fn := fun ds s => (dn (ds.map Sl.im ++ List.replicate (m - ds.length) .un) s).bind fun p => match p.1 with
  | .rt d o => some ((d, o), p.2)
  | .nx _ => some ((.non, false), p.2)
  | _ => none
def dCall (f : Fn) (ax : Da) : Dn := fun ρ s => (ax ρ s).bind fun p => (f p.1 p.2).map fun r => (r.1.1, r.2)
theorem OwOk.freeze {K : Kx} {c : Option Addr} {I H : Hp} {p : Addr} {d : D} (h : OwOk K c I H p d) (s : Sub I H) : ∃ o, I p = none ∧ c ≠ some p ∧ H p = some o ∧ Sub (upd I p o) H ∧ Sb I (upd I p o) ∧ Rep K c (upd I p o) (.ref p) d := by
  cases h with
  | @lst vs ds h1 h2 h3 h4 =>
    have sb : Sb I (upd I p (.lst vs)) := fun a o z => by rw [upd_ne (ne_of_none z h3)]; exact z
    refine ⟨_, h3, h4, h1, fun a o z => ?_, sb, .lst upd_same (h2.mono sb)⟩
    by_cases n : a = p
    · subst n; rw [upd_same] at z; cases z; exact .inl h1
    · rw [upd_ne n] at z; exact s a o z
  | @dS vs ds h1 h2 h3 h4 =>
    have sb : Sb I (upd I p (.dK vs)) := fun a o z => by rw [upd_ne (ne_of_none z h3)]; exact z
    refine ⟨_, h3, h4, h1, fun a o z => ?_, sb, .dS upd_same (h2.mono sb)⟩
    by_cases n : a = p
    · subst n; rw [upd_same] at z; cases z; exact .inl h1
    · rw [upd_ne n] at z; exact s a o z
theorem DW.more {K : Kx} {c : Option Addr} {s : Tau} {I H : Hp} {p : Addr} {o : HO} (w : DW K c s I H) (hc : c ≠ some p) (hI : I p = none) : DW K c s (upd I p o) H := fun r hr => by
  obtain ⟨z1, sc, z2, z3⟩ := w r hr
  have n : r ≠ p := fun z => hc (by rw [hr, z])
  exact ⟨by rw [upd_ne n]; exact z1, sc, z2, sb_sqL (fun a o z => by rw [upd_ne (ne_of_none z hI)]; exact z) z3⟩
theorem sn_call {K : Kx} {n : Nat} {f : Fn} {tx : TA} {ax : Da} (hx : SndA K tx ax) (hl : ∀ ρ s ds s', ax ρ s = some (ds, s') → ds.length = n) : SndE K (tCall (spG K n f) [] E0 tx) (dCall f ax) := fun c I H σ ρ s d s' e h Q q => by
  obtain ⟨⟨ds, s1⟩, h1, h⟩ := bind_some_of h
  obtain ⟨⟨⟨d1, o⟩, s2⟩, h2, h⟩ := map_some_of h
  cases h
  refine hx _ _ _ _ _ _ _ _ e h1 _ fun vs I1 H1 g1 w1 r1 => ?_
  show spG K n f (vs ++ []) H1 Q E0
  rw [List.append_nil]
  refine ⟨r1.length.trans (hl _ _ _ _ h1), c, I1, ds, s1, d1, o, s2, r1, g1.s2, w1, h2, fun v I' H' g w r => ?_⟩
  cases o with
  | false => exact q v I' H' (g1.tr w1 g) w r
  | true =>
    obtain ⟨p, rfl, hp, hn⟩ := r
    obtain ⟨u, hI, hc, hH, hs, sb, rp⟩ := hp.freeze g.s2
    refine q _ (upd I' p u) H' (g1.tr w1 ⟨g.s1.trans sb, hs, g.kp, fun a z => ?_⟩) (w.more hc hI) rp
    by_cases n : a = p
    · subst n; exact .inr hn
    · rw [upd_ne n] at z; exact g.nw a z
theorem len_nil : ∀ ρ s ds s', dNil ρ s = some (ds, s') → ds.length = 0 := fun ρ s ds s' h => by cases h; rfl
theorem len_cons {da : Dn} {ax : Da} {n : Nat} (h : ∀ ρ s ds s', ax ρ s = some (ds, s') → ds.length = n) : ∀ ρ s ds s', dCons da ax ρ s = some (ds, s') → ds.length = n + 1 := fun ρ s ds s' h1 => by
  obtain ⟨⟨x, s1⟩, _, h1⟩ := bind_some_of h1
  obtain ⟨⟨xs, s2⟩, h2, h1⟩ := map_some_of h1
  cases h1
  exact congrArg Nat.succ (h _ _ _ _ h2)
section
variable {X : Cx} {k : Nat} {f : Addr} {fd : FuncData} {ps : List Str} {fn : Fn} {x : Str} {e : Expr} {es : List Expr} {tx : TA} {ax : Da} {p pos : Pos} {n : Nat}
/-- a def that is called: all that is asked of it -/
structure Cd (P : Program) (w : World) (K : PySem.W.Frag) (mg : Str → Option Value) (base : Heap) (k : Nat) (x : Str) (n : Nat) (fn : Fn) : Prop where
  h : ∃ (f : Addr) (fd : FuncData) (ps : List Str), ps.length = n ∧ FnOk P w K mg base CX0 k f fd ps (spG ⟨K, P, w⟩ n fn) ∧ mg x = some (.ref f) ∧ PySem.W.keepIn K (.ref f) = true ∧ Binds K fd ps []
theorem ee_call {j : Nat} (F : Cd X.prog X.w X.K X.mg X.base k x n fn) (hr : Room j X.A) (hk : k ≤ j) (hg : Gl X x) (ha : EA X (e :: es) tx ax) (hl : ∀ ρ s ds s', ax ρ s = some (ds, s') → ds.length = n) (hdb : (x == ("__debug__" : Str)) = false := by decide)
    (he : starEach (e :: es) X.env = (false, eval e X.env) :: starEach es X.env := by rfl) (hpl : (backTo pos (starEach es X.env)).any (fun z => z.1) = false := by rfl) : EE X (.Call (.Name x p) (e :: es) [] pos) (tCall (spG X.kx n fn) [] E0 tx) (dCall fn ax) := by
  obtain ⟨f, fd, ps, hn, G, gm, kp, b⟩ := F.h
  exact ⟨pe_call G (hr.mono hk) hg gm kp b .nil pass0 ha.p hdb he hpl, sn_call ha.s hl⟩
theorem ee_call0 {j : Nat} (F : Cd X.prog X.w X.K X.mg X.base k x 0 fn) (hr : Room j X.A) (hk : k ≤ j) (hg : Gl X x) (hdb : (x == ("__debug__" : Str)) = false := by decide) : EE X (.Call (.Name x p) [] [] pos) (tCall (spG X.kx 0 fn) [] E0 tNil) (dCall fn dNil) := by
  obtain ⟨f, fd, ps, hn, G, gm, kp, b⟩ := F.h
  exact ⟨pe_call0 G (hr.mono hk) hg gm kp b .nil pass0 hdb, sn_call sn_nil len_nil⟩
end
section
variable {P : Program} {w : World} {K : PySem.W.Frag} {mg : Str → Option Value} {base : Heap} {x qual : Str} {params : Arguments} {body : List Stmt} {scope : Scope} {f : Addr} {fd : FuncData}
theorem slL_start {K2 : Kx} {c : Option Addr} {I H : Hp} : ∀ {vs : List V} {ds : List D} (m : Nat), RepL K2 c I vs ds → SlL K2 c I H (vs.map some ++ List.replicate m none) (ds.map Sl.im ++ List.replicate m .un)
  | _, _, 0, .nil => .nil
  | _, _, m + 1, .nil => .cons (.un _) (slL_start m .nil)
  | _, _, m, .cons a r => .cons (.im a) (slL_start m r)
theorem start_im {ds : List D} {m i : Nat} {d : D} (h : (ds.map Sl.im ++ List.replicate m Sl.un)[i]? = some (Sl.ow d)) : False := by
  rcases List.mem_append.mp (List.mem_of_getElem? h) with z | z
  · obtain ⟨_, _, q⟩ := List.mem_map.mp z
    cases q
  · cases (List.eq_of_mem_replicate z)
/-- THE RULE for a def: from its body -/
theorem fn_ok {N ps : List Str} {k : Nat} {dn : Ds} (F : FunD K x qual params body scope [] [] f fd) (S : FnScope N ps scope)
    (hb : ∀ (cdv : Value) (A : Around) (outer : List PySem.Env) (s : Shared) (H : Hp) (E : XK), Room k (A.deeper (envOfC qual scope s.heap.objs.size f cdv)) → ∃ t, ESs (cxOf CX0 P w K mg base N qual scope f cdv A outer s H E).nox body t dn) :
    FnOk P w K mg base CX0 (k + 1) f fd ps (spG ⟨K, P, w⟩ ps.length (fnD N.length dn)) := by
  refine F.ok S (fun vs H Q E h => h.1) (fun cdv A outer s H vs Q E hr h => ?_)
  obtain ⟨t, ht⟩ := hb cdv A outer s H E hr
  refine ⟨t, ht.p.nox, ?_⟩
  obtain ⟨hn, c, I, ds, s0, d, o, s1, r, sb, w0, hf, q⟩ := h
  obtain ⟨⟨out, s2⟩, h1, h2⟩ := bind_some_of hf
  have hl := r.length
  have e0 : EnvS ⟨K, P, w⟩ c I H I H (L2.start N vs) (ds.map Sl.im ++ List.replicate (N.length - ds.length) .un) s0 := by
    have sl : SlL ⟨K, P, w⟩ c I H (L2.start N vs) (ds.map Sl.im ++ List.replicate (N.length - ds.length) .un) := by
      unfold L2.start
      rw [hl]
      exact slL_start _ r
    exact ⟨⟨sb, w0, sl, fun i j p d e _ _ _ h3 _ => (start_im h3).elim⟩, .refl _, .refl _ _, fun a z => .inl z, fun i p d _ h => (start_im h).elim, fun r hr z => by
      obtain ⟨_, sc, z2, _⟩ := w0 r hr
      rw [z] at z2; cases z2⟩
  refine ht.s _ _ _ _ _ _ _ _ _ _ e0 h1 _ ?_
  cases out with
  | nx ρ' =>
    cases h2
    exact fun σ' I' H' e' => q .non I' H' e'.gr e'.env.w .non
  | rt d' k' =>
    have h3 : d' = d ∧ k' = o ∧ s2 = s1 := by cases h2; exact ⟨rfl, rfl, rfl⟩
    obtain ⟨rfl, rfl, rfl⟩ := h3
    cases k' with
    | false => exact fun v I' H' g w r => q v I' H' g w r
    | true => exact fun p I' H' g w r hp => q _ I' H' g w ⟨p, rfl, r, hp⟩
  | bk ρ' => cases h2
  | ct ρ' => cases h2
/-- the law: its first row makes the draws' list -/
def spLaw (K : PySem.W.Frag) : Sp := fun vs H Q _ => ∃ (a : Addr) (ns : List Int), vs = [.ref a] ∧ SqL K H a (ns.map V.int) ∧ ns.length ≤ 63 ∧ ∀ H', Q (.bl true) H'
theorem law_ok {N : List Str} {k i : Nat} {b0 : Int} {x0 : Str} {dn : Ds} {st0 : Stmt} {rest : List Stmt} (F : FunD K x qual params body scope [] [] f fd) (S : FnScope N [x0] scope) (hbody : body = st0 :: rest)
    (hb : ∀ (cdv : Value) (A : Around) (outer : List PySem.Env) (s : Shared) (H : Hp) (E : XK), Room k (A.deeper (envOfC qual scope s.heap.objs.size f cdv)) →
      PS (cxOf CX0 P w K mg base N qual scope f cdv A outer s H E).nox st0 (tAsg (tLst (tCons (tVar 0) (tCons (tC (.int 0)) (tCons (tC (.int b0)) (tCons (tC (.int 0)) tNil))))) (gName i)) ∧ ∃ t, ESs (cxOf CX0 P w K mg base N qual scope f cdv A outer s H E).nox rest t dn)
    (hd : ∀ ns : List Int, ns.length ≤ 63 → ∃ s', dn ((Sl.im (.sl ns) :: List.replicate (N.length - 1) .un).set i (.im .rw)) ⟨0, b0, 0, ns⟩ = some (.rt (.bl true) false, s')) : FnOk P w K mg base CX0 (k + 1) f fd [x0] (spLaw K) := by
  subst hbody
  refine F.ok S (fun vs H Q E h => ?_) (fun cdv A outer s H vs Q E hr h => ?_)
  · obtain ⟨a, ns, rfl, _⟩ := h; rfl
  obtain ⟨h0, t, ht⟩ := hb cdv A outer s H E hr
  have hs := ht.s
  refine ⟨_, (pss_cons h0 ht.p).nox, ?_⟩
  obtain ⟨a, ns, rfl, hS, hlen, q⟩ := h
  obtain ⟨s', hd⟩ := hd ns hlen
  refine ⟨_, rfl, by show 4 ≤ sizeLine; decide, fun p hp => ?_⟩
  -- what is known at the start: the script alone
  let I : Hp := fun z => if z = a then H a else none
  have hIa : I a = H a := if_pos rfl
  have nap : a ≠ p ∨ H a = none := by
    by_cases z : a = p
    · subst z; exact .inr hp
    · exact .inl z
  have hIp : I p = none := by
    by_cases z : p = a
    · subst z; show (if p = p then H p else none) = none; rw [if_pos rfl]; exact hp
    · exact if_neg z
  have hSI : SqL K I a (ns.map V.int) := by
    rcases hS with (h | ⟨o, h⟩) | h
    · exact .inl (.inl (hIa.trans h))
    · exact .inl (.inr ⟨o, hIa.trans h⟩)
    · exact .inr h
  have sb : Sub I (upd H p (.lst [.ref a, .int 0, .int b0, .int 0])) := fun z o hz => by
    by_cases h : z = a
    · subst h
      rw [hIa] at hz
      rw [upd_ne (ne_of_none hz hp)]
      exact .inl hz
    · have : I z = none := if_neg h
      rw [this] at hz; cases hz
  have w0 : DW ⟨K, P, w⟩ (some p) ⟨0, b0, 0, ns⟩ I (upd H p (.lst [.ref a, .int 0, .int b0, .int 0])) := fun r hr => by
    cases hr
    exact ⟨hIp, a, upd_same, hSI⟩
  have hst : L2.start N [V.ref a] = some (.ref a) :: List.replicate (N.length - 1) none := rfl
  have e0 : Ec ⟨K, P, w⟩ (some p) I (upd H p (.lst [.ref a, .int 0, .int b0, .int 0])) (L2.start N [V.ref a]) (Sl.im (.sl ns) :: List.replicate (N.length - 1) .un) ⟨0, b0, 0, ns⟩ := by
    refine ⟨sb, w0, ?_, fun i j p d e _ _ _ h3 _ => start_im (ds := [.sl ns]) h3⟩
    rw [hst]
    exact slL_start (vs := [.ref a]) (ds := [.sl ns]) _ (.cons (.sl hSI) .nil)
  have e1 := e0.setI (v := .ref p) (d := .rw) (.rw rfl) i
  refine hs _ I (upd H p (.lst [.ref a, .int 0, .int b0, .int 0])) I _ _ _ _ _ _ ⟨e1, .refl _, .refl _ _, fun a z => .inl z, fun j p d _ h => ?_, fun r hr => by cases hr; rw [upd_same]; simp⟩ hd _ ?_
  · by_cases z : i = j
    · subst z
      rw [List.getElem?_set] at h
      simp only [if_true] at h
      split at h <;> cases h
    · rw [List.getElem?_set_ne z] at h
      exact (start_im (ds := [.sl ns]) h).elim
  · intro v I' H' g w' r
    cases r
    exact q H'
end
end Dl
end
section
set_option Elab.async false
set_option linter.all false
set_option maxRecDepth 100000
set_option maxHeartbeats 4000000
namespace Dl
open PySem PySem.Spec PyProof.Rows L2 StX

/-! enumerate(t), t a tuple -/
theorem meets_enumB {v : Value} {o : Obj} {H : Heap → Prop} (B : Begins v o H) :
    Meets (Builtin.«enumerate.__new__» ⟨[.type "enumerate", v], []⟩) (fun _ R s => H s.heap ∧
      R (.ok (.ret (.ref (s.heap.push o).objs.size))) { s with heap := (s.heap.push o).push { cls := .type "enumerate", data := .fields #[.none, .bool false, .ref s.heap.objs.size, rawInt 0, .none, .none] } }) :=
  .of_wp fun prog w A R s z => by
    obtain ⟨hp, g, d, tk, os⟩ := s
    obtain ⟨hH, hR⟩ := z
    have hs := sub_enumerate
    wp_walk
    refine wpAny_stack_any fun st => wpAny_pure ?_
    split
    · rename_i c _ _ _ _ _
      cases (c == Value.type "enumerate") <;> (wp_walk using (B.iter _ _ _ _ _ _ hH); exact ⟨_, rfl, hR⟩)
    · wp_walk using (B.iter _ _ _ _ _ _ hH)
      exact ⟨_, rfl, hR⟩
theorem call_enumB {prog : Program} {w : World} {A : Around} {E : Value → Shared → Prop} {s : Shared} {v : Value} {o : Obj} {H : Heap → Prop} {Q : Value → Shared → Prop} (B : Begins v o H) (h1 : H s.heap)
    (h : ∀ h', IsEnum h' (s.heap.objs.size + 1) s.heap.objs.size 0 .none → h'.get? s.heap.objs.size = some o → (∀ b u, s.heap.get? b = some u → h'.get? b = some u) → Q (.ref (s.heap.objs.size + 1)) { s with heap := h' }) :
    wpAny (model prog w) A (call (.type "enumerate") [v]) Q E s := by
  refine callType_new F.called_enumerate (by decide) (F.typeCall_enumerate_1 _) (F.newCall_enumerate_1 _) (fun obj => F.args_object_init_2 obj _) F.entry_enumerate_new (meets_enumB B) ⟨h1, ?_⟩
  have hz : (s.heap.push o).objs.size = s.heap.objs.size + 1 := Heap.size_push ..
  show _ ∧ _
  rw [hz]
  have he := Heap.get?_push_size (s.heap.push o) (o := { cls := .type "enumerate", data := .fields #[.none, .bool false, .ref s.heap.objs.size, rawInt 0, .none, .none] }) rfl
  rw [hz] at he
  exact ⟨⟨_, he, rfl⟩, h _ he (Heap.get?_push_of_some _ (Heap.get?_push_size _ B.free)) fun b u x => Heap.get?_push_of_some _ (Heap.get?_push_of_some _ x)⟩
def IteT (K : PySem.W.Frag) (a : Addr) : It :=
  ⟨fun i H => ∃ (xs : List V) (x : V), SqT K H a xs ∧ xs[i]? = some x, fun i H v H' => ∃ T x, v = .ref T ∧ H T = none ∧ H' = upd H T (.tup [.int (i : Nat), x]) ∧ ∀ xs, SqT K H a xs → xs[i]? = some x, fun i H => ∃ xs : List V, SqT K H a xs ∧ xs.length = i⟩
theorem turn_enumT {P : Program} {w : World} {K : PySem.W.Frag} {elts : List Expr} {kk : Nat} {tpos : Pos} (a e it : Addr) :
    Turn P w K (.Tuple elts kk tpos) (IteT K a) [e, it] e (fun i h => (∃ old, IsEnum h e it ((i : Nat) : Int) old) ∧ h.IsTupleIter it a i ∧ e ≠ it) where
  mem := by simp
  obj := fun i h st b hb => by
    obtain ⟨⟨old, he⟩, ⟨o, ho, hc, hd⟩, _⟩ := st
    rcases (by simpa using hb : b = e ∨ b = it) with z | z
    · rw [z]; exact ⟨_, he, fun v q => nomatch q⟩
    · exact ⟨o, by rw [z]; exact ho, fun v q => by rw [hd] at q; cases q⟩
  keep := fun i h h' st k => ⟨⟨_, k e (by simp) _ st.1.choose_spec⟩, st.2.1.at fun o q => k it (by simp) o q, st.2.2⟩
  item := by
    intro X hP hw hK hc i pins s σ H E I hf st hg
    subst hP hw hK
    obtain ⟨⟨old, he⟩, hit, hne⟩ := st
    obtain ⟨xs, x, hq, hx⟩ := hg
    obtain ⟨its, rv, p, hz⟩ := I.tuple hq
    obtain ⟨u, hu, ru⟩ := rv.get hx
    have hel : e < s.heap.objs.size := Heap.lt_size he
    obtain ⟨oi, hoi, hci, hdi⟩ := id hit
    have hil : it < s.heap.objs.size := Heap.lt_size hoi
    obtain ⟨oa, hoa, hca, _⟩ := id p
    have nai : a ≠ it := fun z => by
      rw [z, hoi] at hoa
      cases hoa
      exact absurd (Value.type.inj (hci.symm.trans hca)) (by decide)
    have nae : e ≠ a := fun z => by
      have he2 := he
      unfold IsEnum at he2
      rw [z, hoa] at he2
      cases he2
      exact absurd (Value.type.inj hca) (by decide)
    have D : Draws X.prog X.w X.A.in1 it [it, a] its.toArray.size _ _ := Draws.tuple (A := X.A.in1) (show X.A.in1.handled = none from I.ok.hd hc) it a nai its.toArray
    have hlt : i < its.toArray.size := by
      have := (List.getElem?_eq_some_iff.mp hu).1
      simpa using this
    refine wpAny_pyNext_enum_itemD D he ⟨hit, p⟩ hlt hne (by simp [hne, nae]) fun y h' tk hy ho hst' hT hsz hk => ?_
    have hy' : y = u := by
      have : its.toArray[i]? = some u := by simpa using hu
      exact Option.some.inj (hy.symm.trans this)
    subst hy'
    refine ⟨_, rfl, wpAny_letOwnedTupleGo_enum (s := { s with heap := h', toks := tk + 1 }) ho fun h'' he' sb => ?_⟩
    have hT2 : h''.get? s.heap.objs.size = some { cls := .type "tuple", data := .seq #[.int i tk, y] } := (sb.2 _ (Nat.ne_of_gt hel)).trans hT
    have J : Inv X pins σ (upd H s.heap.objs.size (.tup [.int (i : Nat), x])) { s with heap := h'', toks := tk + 1 } :=
      I.turnedNew (ch := [e, it]) (fun b ob hb q => by
        have n1 : b ≠ e := fun z => hb (by simp [z])
        have n2 : b ≠ it := fun z => hb (by simp [z])
        exact (sb.2 b n1).trans (hk b ob n1 n2 q)) hf (Nat.le_refl _) (by
        refine ⟨by show 2 ≤ sizeLine; decide, [.int i tk, y], .cons ⟨_, rfl⟩ (.cons ru .nil), _, hT2, rfl, _, rfl⟩)
    refine ⟨.ref s.heap.objs.size, _, J, rfl, ⟨_, x, rfl, I.hok.fresh (Nat.le_refl _), rfl, fun ys hy => by rw [I.tuple_inj hy hq]; exact hx⟩, ⟨⟨y, ?_⟩, hst'.1.at fun o q => (sb.2 it (Ne.symm hne)).trans q, hne⟩, fun b hb => ?_⟩
    · rw [show ((i + 1 : Nat) : Int) = (i : Int) + 1 by omega]; exact he'
    · have hb' : b < s.heap.objs.size := by
        rcases (by simpa using hb : b = e ∨ b = it) with z | z
        · rw [z]; exact hel
        · rw [z]; exact hil
      rw [upd_ne (Nat.ne_of_lt hb')]
      exact (hf b hb).1
  done := by
    intro X hP hw hK hc i pins s σ H E I hf st hg
    subst hP hw hK
    obtain ⟨⟨old, he⟩, hit, hne⟩ := st
    obtain ⟨xs, hq, hx⟩ := hg
    obtain ⟨its, rv, p, hz⟩ := I.tuple hq
    obtain ⟨oi, hoi, hci, hdi⟩ := id hit
    obtain ⟨oa, hoa, hca, _⟩ := id p
    have nai : a ≠ it := fun z => by
      rw [z, hoi] at hoa
      cases hoa
      exact absurd (Value.type.inj (hci.symm.trans hca)) (by decide)
    obtain ⟨f0, f1, f2, f3, f4, f5⟩ := hf it (by simp)
    have hl := rv.length
    have D : Draws X.prog X.w X.A.in1 it [it, a] its.toArray.size _ _ := Draws.tuple (A := X.A.in1) (show X.A.in1.handled = none from I.ok.hd hc) it a nai its.toArray
    have hn : its.toArray.size = i := by
      rw [List.size_toArray]; omega
    exact wpAny_pyNext_enum_endD D he ⟨by rw [hn]; exact hit, p⟩ fun h' eb => ⟨rfl, I.turned (t' := s.toks) (fun b o hb q => eb b o hb q) f0 f1 f3 f4 f5⟩
  self := fun A i s Q E st h => let ⟨⟨_, he⟩, _⟩ := st; wpAny_pyIter_enum he h
end Dl
end
section
set_option Elab.async false
set_option linter.all false
set_option maxRecDepth 100000
set_option maxHeartbeats 4000000
namespace Dl
open PySem PySem.Spec PyProof.Rows L2 StX

theorem RepL.strs {K : Kx} {c : Option Addr} {I : Hp} : ∀ ns : List Str, RepL K c I (ns.map V.str) (ns.map D.str)
  | [] => .nil
  | n :: ns => .cons (.str n) (RepL.strs ns)
/-! enumerate -/
def enumL : Nat → List D → List D
  | _, [] => []
  | k, x :: xs => .ktp [.int (k : Nat), x] :: enumL (k + 1) xs
theorem enumL_len : ∀ (xs : List D) (k : Nat), (enumL k xs).length = xs.length
  | [], _ => rfl
  | x :: xs, k => congrArg Nat.succ (enumL_len xs (k + 1))
theorem enumL_get : ∀ {xs : List D} {k i : Nat} {z : D}, (enumL k xs)[i]? = some z → ∃ x, xs[i]? = some x ∧ z = .ktp [.int ((k + i : Nat) : Nat), x]
  | [], _, _, _, h => by simp [enumL] at h
  | x :: xs, k, 0, z, h => by
    have : some (D.ktp [.int (k : Nat), x]) = some z := h
    cases this
    exact ⟨x, rfl, rfl⟩
  | x :: xs, k, i + 1, z, h => by
    obtain ⟨y, h1, h2⟩ := enumL_get (xs := xs) (k := k + 1) (i := i) h
    exact ⟨y, h1, by rw [h2, show k + 1 + i = k + (i + 1) by omega]⟩
section
variable {K : Kx} {c : Option Addr} {I : Hp}
theorem yl_enumT {a : Addr} {xs : List V} {ds : List D} (h : SqT K I a xs) (r : RepL K c I xs ds) : Yl K c (IteT K a) I (enumL 0 ds) := fun I2 H2 sb s => by
  have hq : SqT K H2 a xs := s.sqT (sb_sqT sb h)
  refine ⟨fun i d e => ?_, ⟨xs, hq, by rw [r.length, enumL_len]⟩⟩
  obtain ⟨z, e2, rfl⟩ := enumL_get e
  obtain ⟨v, hv, rv⟩ := r.get e2
  refine ⟨⟨xs, v, hq, hv⟩, fun x H3 hy => ?_⟩
  obtain ⟨T, y, rfl, hT, rfl, hy⟩ := hy
  have := hy xs hq
  rw [hv] at this
  cases this
  have g := Gr.new (o := .tup [.int (i : Nat), v]) s hT
  refine ⟨_, g, .ktp (.of upd_same) ?_⟩
  rw [show 0 + i = i by omega]
  exact .cons (.int _) (.one ((rv.mono sb).mono g.s1))
theorem yl_enumL {a : Addr} {xs : List V} {ds : List D} (h : I a = some (.lst xs)) (r : RepL K c I xs ds) : Yl K c (Ite K a) I (enumL 0 ds) := fun I2 H2 sb s => by
  have hq : SqL K H2 a xs := .of (s.lst (sb _ _ h))
  refine ⟨fun i d e => ?_, ⟨xs, hq, by rw [r.length, enumL_len]; exact Nat.le_refl _⟩⟩
  obtain ⟨z, e2, rfl⟩ := enumL_get e
  obtain ⟨v, hv, rv⟩ := r.get e2
  refine ⟨⟨xs, v, hq, hv⟩, fun x H3 hy => ?_⟩
  obtain ⟨T, y, rfl, hT, rfl, hy⟩ := hy
  have := hy xs hq
  rw [hv] at this
  cases this
  have g := Gr.new (o := .tup [.int (i : Nat), v]) s hT
  refine ⟨_, g, .ktp (.of upd_same) ?_⟩
  rw [show 0 + i = i by omega]
  exact .cons (.int _) (.one ((rv.mono sb).mono g.s1))
end
def iEnumT (K : Kx) (ta : TA) : TI := fun σ H R => ta σ H fun vs H1 => ∃ a xs, vs = [.ref a] ∧ SqT K H1 a xs ∧ R (IteT K a) H1
theorem pi_enumT {X : Cx} {e : Expr} {ta : TA} {p pos tpos : Pos} {elts : List Expr} {kk : Nat} (hg : Gl X "enumerate") (hm : X.mg "enumerate" = none) (ha : PA X [e] ta) (hs : starEach [e] X.env = [(false, eval e X.env)] := by rfl) :
    PI X (.Tuple elts kk tpos) (.Call (.Name "enumerate" p) [e] [] pos) (iEnumT X.kx ta) := by
  refine ⟨fun pins s σ H R I h => Call_ (ld_blt I hg hm boot_enumerate (PyProof.Rows.callWith_type1 (thn (ha.run pos pins s σ H _ I h) fun us s1 z => ?_) hs rfl))⟩
  obtain ⟨vs, H1, J, r1, a, xs, rfl, hq, q⟩ := z
  obtain ⟨u, rfl, ru⟩ := vals1 r1
  obtain rfl : u = Value.ref a := ru
  obtain ⟨its, rv, p', hz⟩ := J.tuple hq
  refine call_enumB (begins_tuple a its.toArray) p' fun h' he hit hk => wpAny_pyIter_enum he ?_
  have J2 : Inv X pins σ H1 { s1 with heap := h' } := J.kept (t' := s1.toks) hk
  refine ⟨s1.heap.objs.size + 1, [s1.heap.objs.size + 1, s1.heap.objs.size], _, _, H1, rfl, J2, turn_enumT a (s1.heap.objs.size + 1) s1.heap.objs.size, ⟨⟨.none, he⟩, ⟨_, hit, rfl, rfl⟩, Nat.succ_ne_self _⟩, fun b hb => ?_, q⟩
  have hle : s1.heap.objs.size ≤ b := by
    rcases (by simpa using hb : b = s1.heap.objs.size + 1 ∨ b = s1.heap.objs.size) with z | z
    · rw [z]; exact Nat.le_add_right _ _
    · rw [z]; exact Nat.le_refl _
  exact J.fpOk hle (J.hok.fresh hle)
def dEnT (ax : Da) : Da := fun ρ s => (ax ρ s).bind fun p => match p.1 with
  | [d] => d.asT.map fun xs => (enumL 0 xs, p.2)
  | _ => none
def dEnL (ax : Da) : Da := fun ρ s => (ax ρ s).bind fun p => match p.1 with
  | [.lst xs] => some (enumL 0 xs, p.2)
  | _ => none
theorem si_enumT {K : Kx} {tx : TA} {ax : Da} (h1 : SndA K tx ax) : SndI K (iEnumT K tx) (dEnT ax) := fun c I H σ ρ s xs s' e h R q => by
  obtain ⟨⟨x, s1⟩, h2, h⟩ := bind_some_of h
  refine h1 _ _ _ _ _ _ _ _ e h2 _ fun v I1 H1 g1 w1 r1 => ?_
  split at h
  · rename_i d hd
    have hd : x = [d] := hd
    subst hd
    obtain ⟨ds, h3, h⟩ := map_some_of h
    cases h
    cases r1 with
    | cons a r =>
      cases r
      obtain ⟨p, vs, rfl, hp, rp⟩ := a.asT h3
      exact ⟨p, vs, rfl, g1.s2.sqT hp, q _ I1 H1 g1 w1 (yl_enumT hp rp)⟩
  · cases h
theorem si_enumL {K : Kx} {tx : TA} {ax : Da} (h1 : SndA K tx ax) : SndI K (iEnum K tx) (dEnL ax) := fun c I H σ ρ s xs s' e h R q => by
  obtain ⟨⟨x, s1⟩, h2, h⟩ := bind_some_of h
  refine h1 _ _ _ _ _ _ _ _ e h2 _ fun v I1 H1 g1 w1 r1 => ?_
  split at h
  · rename_i ds hd
    have hd : x = [.lst ds] := hd
    subst hd
    cases h
    cases r1 with
    | cons a r =>
      cases r
      cases a with
      | lst hp rp => exact ⟨_, _, rfl, .of (g1.s2.lst hp), q _ I1 H1 g1 w1 (yl_enumL hp rp)⟩
  · cases h
section
variable {X : Cx} {e o : Expr} {te : TE} {da : Dn} {tx : TA} {ax : Da} {p pos tpos apos cpos : Pos} {elts : List Expr} {kk : Nat}
theorem ei_enumT (hg : Gl X "enumerate") (hm : X.mg "enumerate" = none) (ha : EA X [e] tx ax) (hs : starEach [e] X.env = [(false, eval e X.env)] := by rfl) : EI X (.Tuple elts kk tpos) (.Call (.Name "enumerate" p) [e] [] pos) (iEnumT X.kx tx) (dEnT ax) := ⟨pi_enumT hg hm ha.p hs, si_enumT ha.s⟩
theorem ei_enumL (hg : Gl X "enumerate") (hm : X.mg "enumerate" = none) (ha : EA X [e] tx ax) (hs : starEach [e] X.env = [(false, eval e X.env)] := by rfl) : EI X (.Tuple elts kk tpos) (.Call (.Name "enumerate" p) [e] [] pos) (iEnum X.kx tx) (dEnL ax) := ⟨pi_enum hg hm ha.p hs, si_enumL ha.s⟩
end

/-! t.count(x); methods of texts -/
def countD (d e : D) : Option D := match d, e with
  | .tup xs, .str y => (strsOf xs).map fun ys => .int ((ys.count y : Nat) : Int)
  | _, _ => none
theorem countV (y : Str) : ∀ ys : List Str, ((ys.map V.str).countP fun z => eqV z (.str y)) = ys.count y
  | [] => rfl
  | x :: xs => by
    rw [List.map_cons, List.countP_cons, List.count_cons, countV y xs]
    rfl
theorem sn_tcount {K : Kx} {to te : TE} {dx da : Dn} (h0 : SndE K to dx) (h1 : SndE K te da) : SndE K (tTCount to te) (dOp countD dx da) := fun c I H σ ρ s d s' e h Q q => by
  obtain ⟨⟨x, s1⟩, h2, h⟩ := bind_some_of h
  obtain ⟨⟨y, s2⟩, h3, h⟩ := bind_some_of h
  obtain ⟨z, h4, h⟩ := map_some_of h
  cases h
  refine h0 _ _ _ _ _ _ _ _ e h2 _ fun v I1 H1 g1 w1 r1 => ?_
  unfold countD at h4
  split at h4
  · rename_i xs y1 hx1 hy1
    have hx1 : x = .tup xs := hx1
    have hy1 : y = .str y1 := hy1
    subst hx1 hy1
    obtain ⟨ys, h5, rfl⟩ := map_some_of h4
    cases r1 with
    | @tup a o vs ds hI ho rl =>
      have hH := g1.s2.get hI fun _ z => by cases z
      refine ⟨a, o, vs, rfl, hH, ho, ?_⟩
      refine h1 _ _ _ _ _ _ _ _ (e.grow g1 w1) h3 _ fun u I2 H2 g2 w2 r2 => ?_
      cases r2
      have ev := strsOf_rep rl h5
      refine ⟨g2.s2.get (g2.s1 _ _ hI) (fun _ z => by cases z), rfl, ?_, ?_⟩
      · rw [ev, List.all_map]
        exact List.all_eq_true.mpr fun _ _ => rfl
      · rw [ev, countV]
        exact q _ I2 H2 (g1.tr w1 g2) w2 (.int _)
  · cases h4
def SndMS (K : Kx) (r : V → List V → Hp → VK → Prop) (f : Str → List D → Option D) : Prop := ∀ c I H x xs ds z, Sub I H → RepL K c I xs ds → f x ds = some z → ∀ Q, RQ K c I H z Q → r (.str x) xs H Q
def dMethS (f : Str → List D → Option D) (dx : Dn) (ax : Da) : Dn := fun ρ s => (dx ρ s).bind fun p => match p.1 with
  | .str x => (ax ρ p.2).bind fun q => (f x q.1).map fun z => (z, q.2)
  | _ => none
theorem sn_bmS {K : Kx} {r : V → List V → Hp → VK → Prop} {f : Str → List D → Option D} {to : TE} {tx : TA} {dx : Dn} {ax : Da} (h0 : SndE K to dx) (h1 : SndA K tx ax) (hr : SndMS K r f) : SndE K (tBM K "str" r to tx) (dMethS f dx ax) := fun c I H σ ρ s d s' e h Q q => by
  obtain ⟨⟨x, s1⟩, h2, h⟩ := bind_some_of h
  refine h0 _ _ _ _ _ _ _ _ e h2 _ fun v I1 H1 g1 w1 r1 => ?_
  cases r1 with
  | str x =>
    obtain ⟨⟨y, s2⟩, h3, h⟩ := bind_some_of h
    obtain ⟨z, h4, h⟩ := map_some_of h
    cases h
    refine ⟨rfl, ?_⟩
    refine h1 _ _ _ _ _ _ _ _ (e.grow g1 w1) h3 _ fun u I2 H2 g2 w2 r2 => ?_
    refine hr _ _ _ _ _ _ _ g2.s2 r2 h4 _ fun t I3 H3 g3 r3 => ?_
    exact q t I3 H3 ((g1.tr w1 g2).tr w2 g3.up) (w2.gr g3) r3
  | _ => cases h
def countSD : Str → List D → Option D
  | x, [.str y] => some (.int (Txt.count x y))
  | _, _ => none
def rCountS : V → List V → Hp → VK → Prop := fun x xs H Q => ∃ a b, x = .str a ∧ xs = [.str b] ∧ Q (.int (Txt.count a b)) H
theorem sm_count {K : Kx} : SndMS K rCountS countSD := fun c I H x xs ds z s rx h Q q => by
  unfold countSD at h
  split at h
  · cases h
    cases rx with
    | cons a r => cases r; cases a; exact ⟨_, _, rfl, rfl, q.val s (.int _)⟩
  · cases h
def joinSD : Str → List D → Option D
  | x, [.lst ds] => (strsOf ds).bind fun ys => if (ys.map fun z => z.length).sum + ys.length * x.length ≤ 1000000 then some (.str (Txt.join x ys)) else none
  | _, _ => none
def rJoinS (K : Kx) : V → List V → Hp → VK → Prop := fun x xs H Q => ∃ a p, ∃ ys : List Str, x = .str a ∧ xs = [.ref p] ∧ (SqL K H p (ys.map V.str) ∨ SqT K H p (ys.map V.str)) ∧ (ys.map (fun z => z.length)).sum + ys.length * a.length ≤ 16777216 ∧ Q (.str (Txt.join a ys)) H
theorem sm_join {K : Kx} : SndMS K (rJoinS K) joinSD := fun c I H x xs ds z s rx h Q q => by
  unfold joinSD at h
  split at h
  · obtain ⟨ys, h1, h⟩ := bind_some_of h
    split at h
    · rename_i hl
      cases h
      cases rx with
      | cons a r =>
        cases r
        cases a with
        | lst h2 rl =>
          rw [strsOf_rep rl h1] at h2
          exact ⟨_, _, ys, rfl, rfl, .inl (.of (s.lst h2)), by omega, q.val s (.str _)⟩
    · cases h
  · cases h
section
variable {X : Cx} {o e : Expr} {es : List Expr} {to te : TE} {dx da : Dn} {tx : TA} {ax : Da} {apos cpos : Pos}
theorem ee_tcount (ho : EE X o to dx) (he : EE X e te da) (hbase : attributeBase o "count" X.env (eval o X.env) = eval o X.env := by rfl) (hline : (apos.endLine == cpos.line) = true := by rfl) (hs : starEach [e] X.env = [(false, eval e X.env)] := by rfl) :
    EE X (.Call (.Attribute o "count" apos) [e] [] cpos) (tTCount to te) (dOp countD dx da) := ⟨pe_tcount ho.p he.p hbase hline hs, sn_tcount ho.s he.s⟩
/-- a method of str -/
theorem ee_bmS {name : Str} {id : String} {r : V → List V → Hp → VK → Prop} {f : Str → List D → Option D} (slot : Slot "str" name id) (hty : typeOf (.builtin id) = pure (.type "method_descriptor")) (hm : MtR X id r) (hr : SndMS X.kx r f) (ho : EE X o to dx) (ha : EA X (e :: es) tx ax)
    (hbase : attributeBase o name X.env (eval o X.env) = eval o X.env := by rfl)
    (hfew : ((backTo cpos (starEach (e :: es) X.env)).all (fun x => !x.1) && (backToKw cpos (keywordEach [] X.env)).all (fun x => x.1.isSome) && decide ((e :: es).length + ([] : List Keyword).length + (if ([] : List Keyword).isEmpty then 0 else 1) < 30)) = true := by rfl)
    (hline : (apos.endLine == cpos.line) = true := by rfl) (hs : starEach (e :: es) X.env = (false, eval e X.env) :: starEach es X.env := by rfl) (hplain : (backTo cpos (starEach es X.env)).any (fun z => z.1) = false := by rfl) :
    EE X (.Call (.Attribute o name apos) (e :: es) [] cpos) (tBM X.kx "str" r to tx) (dMethS f dx ax) :=
  ⟨pe_bm PySem.F.plainAttrs_str slot hty hm ho.p ha.p hbase hfew hline hs hplain, sn_bmS ho.s ha.s hr⟩
end

/-! dicts with text keys -/
def lookD {κ : Type} [DecidableEq κ] (es : List (κ × D)) (k : κ) : Option D := (es.find? fun z => decide (z.1 = k)).map fun z => z.2
def putD {κ : Type} [DecidableEq κ] (es : List (κ × D)) (k : κ) (v : D) : List (κ × D) := if (es.any fun z => decide (z.1 = k)) = true then es.map (fun z => if z.1 = k then (z.1, v) else z) else es ++ [(k, v)]
def mergeD (es more : List (Str × D)) : List (Str × D) := more.foldl (fun acc z => putD acc z.1 z.2) es
section
variable {K : Kx} {c : Option Addr} {I : Hp}
theorem RepS.length : ∀ {kvs : List (Key × V)} {es : List (Str × D)}, RepS K c I kvs es → kvs.length = es.length
  | _, _, .nil => rfl
  | _, _, .cons _ r => congrArg Nat.succ r.length
theorem dec_inr {a b : Str} : decide ((Sum.inr a : Key) = Sum.inr b) = decide (a = b) := key_rr a b
theorem RepS.look : ∀ {kvs : List (Key × V)} {es : List (Str × D)} {k : Str} {d : D}, RepS K c I kvs es → lookD es k = some d → ∃ v, valV kvs (Sum.inr k) = some v ∧ Rep K c I v d
  | _, _, _, _, .nil, h => by cases h
  | _, _, k, d, .cons (k := k') a r, h => by
    by_cases e : k' = k
    · subst e
      rename_i v0 d0 _ _
      have h : some d0 = some d := by simpa [lookD, List.find?_cons] using h
      cases h
      exact ⟨v0, valV_pos rfl, a⟩
    · rename_i v0 d0 vs0 ds0
      have h2 : lookD ds0 k = some d := by
        unfold lookD at h ⊢
        rw [List.find?_cons, decide_eq_false e] at h
        exact h
      obtain ⟨v, h3, h4⟩ := r.look h2
      exact ⟨v, by rw [valV_neg (fun z => e (Sum.inr.inj z))]; exact h3, h4⟩
theorem RepS.none : ∀ {kvs : List (Key × V)} {es : List (Str × D)} {k : Str}, RepS K c I kvs es → lookD es k = Option.none → valV kvs (Sum.inr k) = Option.none
  | _, _, _, .nil, h => rfl
  | _, _, k, .cons (k := k') a r, h => by
    by_cases e : k' = k
    · subst e
      simp [lookD, List.find?_cons] at h
    · rename_i v0 d0 vs0 ds0
      have h2 : lookD ds0 k = Option.none := by
        unfold lookD at h ⊢
        rw [List.find?_cons, decide_eq_false e] at h
        exact h
      rw [valV_neg (fun z => e (Sum.inr.inj z))]
      exact r.none h2
theorem RepS.any (k : Str) : ∀ {kvs : List (Key × V)} {es : List (Str × D)}, RepS K c I kvs es → (kvs.any fun z => decide (z.1 = Sum.inr k)) = es.any fun z => decide (z.1 = k)
  | _, _, .nil => rfl
  | _, _, .cons a r => by
    rw [List.any_cons, List.any_cons, r.any k]
    show (decide (Sum.inr _ = Sum.inr k) || _) = _
    rw [dec_inr]
theorem RepS.repl (k : Str) {v : V} {d : D} (h : Rep K c I v d) : ∀ {kvs : List (Key × V)} {es : List (Str × D)}, RepS K c I kvs es → RepS K c I (kvs.map fun z => if z.1 = Sum.inr k then (z.1, v) else z) (es.map fun z => if z.1 = k then (z.1, d) else z)
  | _, _, .nil => .nil
  | _, _, .cons (k := k') a r => by
    rw [List.map_cons, List.map_cons]
    by_cases e : k' = k
    · subst e
      rw [if_pos rfl, if_pos rfl]
      exact .cons h (r.repl _ h)
    · rw [if_neg (fun z => e (Sum.inr.inj z)), if_neg e]
      exact .cons a (r.repl _ h)
theorem RepS.snoc {k : Str} {v : V} {d : D} (h : Rep K c I v d) : ∀ {kvs : List (Key × V)} {es : List (Str × D)}, RepS K c I kvs es → RepS K c I (kvs ++ [(Sum.inr k, v)]) (es ++ [(k, d)])
  | _, _, .nil => .cons h .nil
  | _, _, .cons a r => .cons a (r.snoc h)
theorem RepS.put {kvs : List (Key × V)} {es : List (Str × D)} {k : Str} {v : V} {d : D} (r : RepS K c I kvs es) (h : Rep K c I v d) : RepS K c I (putK kvs (Sum.inr k) v) (putD es k d) := by
  unfold putK putD
  rw [r.any k]
  split
  · exact r.repl k h
  · exact r.snoc h
theorem RepS.merge : ∀ {more : List (Key × V)} {es2 : List (Str × D)} {kvs : List (Key × V)} {es : List (Str × D)}, RepS K c I more es2 → RepS K c I kvs es → RepS K c I (mergeK kvs more) (mergeD es es2)
  | _, _, _, _, .nil, r => r
  | _, _, _, _, .cons a r2, r => by
    unfold mergeK mergeD
    rw [List.foldl_cons, List.foldl_cons]
    exact RepS.merge r2 (r.put a)
end
abbrev Dp2 := List Sl → Tau → Option (List (Str × D) × Tau)
def dpNil : Dp2 := fun _ s => some ([], s)
def dpCons (k v : Dn) (r : Dp2) : Dp2 := fun ρ s => (k ρ s).bind fun p => match p.1 with
  | .str x => (v ρ p.2).bind fun q => (r ρ q.2).map fun t => ((x, q.1) :: t.1, t.2)
  | _ => none
def dDisp (r : Dp2) : Dn := fun ρ s => (r ρ s).bind fun p => if p.1.length ≤ 15 then some (.dS (mergeD [] p.1), p.2) else none
def SndP (K : Kx) (trs : List (TE × TE)) (dp : Dp2) : Prop := ∀ c I H σ ρ s es s', Ec K c I H σ ρ s → dp ρ s = some (es, s') →
  ∀ Q : List (V × V) → Hp → Prop, (∀ kvs I' H', Gr c I H I' H' → DW K c s' I' H' → RepS K c I' kvs es → Q (kvs.map fun z => (kV z.1, z.2)) H') → tPairs trs σ H Q
theorem sp_nil {K : Kx} : SndP K [] dpNil := fun c I H σ ρ s es s' e h Q q => by
  cases h
  exact q [] I H (.refl e.sub) e.w .nil
theorem sp_cons {K : Kx} {tk tv : TE} {trs : List (TE × TE)} {dk dv : Dn} {dr : Dp2} (h1 : SndE K tk dk) (h2 : SndE K tv dv) (h3 : SndP K trs dr) : SndP K ((tk, tv) :: trs) (dpCons dk dv dr) := fun c I H σ ρ s es s' e h Q q => by
  obtain ⟨⟨x, s1⟩, ha, h⟩ := bind_some_of h
  refine h1 _ _ _ _ _ _ _ _ e ha _ fun v I1 H1 g1 w1 r1 => ?_
  cases r1 with
  | str x =>
    obtain ⟨⟨y, s2⟩, hb, h⟩ := bind_some_of h
    obtain ⟨⟨z, s3⟩, hc, h⟩ := map_some_of h
    cases h
    refine h2 _ _ _ _ _ _ _ _ (e.grow g1 w1) hb _ fun u I2 H2 g2 w2 r2 => ?_
    have g12 := g1.tr w1 g2
    refine h3 _ _ _ _ _ _ _ _ (e.grow g12 w2) hc _ fun kvs I3 H3 g3 w3 r3 => ?_
    exact q ((Sum.inr x, u) :: kvs) I3 H3 (g12.tr w2 g3) w3 (.cons (r2.mono g3.s1) r3)
  | _ => cases h
theorem sn_disp {K : Kx} {trs : List (TE × TE)} {dr : Dp2} (h1 : SndP K trs dr) : SndE K (tDisp trs) (dDisp dr) := fun c I H σ ρ s d s' e h Q q => by
  obtain ⟨⟨es, s1⟩, ha, h⟩ := bind_some_of h
  split at h
  · rename_i hl
    cases h
    intro p hp
    have cD : c ≠ some p := fun z => by
      obtain ⟨_, sc, z2, _⟩ := e.w p z
      rw [hp] at z2; cases z2
    have hI := e.sub.free hp
    have g0 : Gr c I H I (upd H p (.dK [])) := ⟨.refl _, fun a o z => by rw [upd_ne (ne_of_none z hI)]; exact e.sub a o z, fun a o _ z => by rw [upd_ne (ne_of_none z hp)]; exact z, fun a z => .inl z⟩
    have w0 : DW K c s I (upd H p (.dK [])) := fun r hr => by
      obtain ⟨z1, sc, z2, z3⟩ := e.w r hr
      exact ⟨z1, sc, by rw [upd_ne (ne_of_none z2 hp)]; exact z2, z3⟩
    refine h1 _ _ _ _ _ _ _ _ (e.grow g0 w0) ha _ fun kvs I1 H1 g1 w1 r1 => ?_
    have hp1 : H1 p = some (.dK []) := g1.kp _ _ cD upd_same
    have hI1 : I1 p = none := by
      cases qq : I1 p with
      | none => rfl
      | some o =>
        rcases g1.nw p (by rw [qq]; simp) with z | z
        · exact absurd hI z
        · rw [upd_same] at z; cases z
    refine ⟨hp1, kvs, rfl, by rw [r1.length]; exact hl, ?_⟩
    have sI : Sb I1 (upd I1 p (.dK (mergeK [] kvs))) := fun a o z => by rw [upd_ne (ne_of_none z hI1)]; exact z
    refine q _ (upd I1 p (.dK (mergeK [] kvs))) _ ⟨(g0.s1.trans g1.s1).trans sI, fun a o z => ?_, fun a o n z => ?_, fun a z => ?_⟩ (fun r hr => ?_) (.dS upd_same (RepS.merge (r1.mono sI) .nil))
    · by_cases n : a = p
      · subst n; rw [upd_same] at z ⊢; exact .inl z
      · rw [upd_ne n] at z ⊢; exact g1.s2 a o z
    · rw [upd_ne (ne_of_none z hp)]
      exact g1.kp a o n (g0.kp a o n z)
    · by_cases n : a = p
      · subst n; exact .inr hp
      · rw [upd_ne n] at z
        rcases g1.nw a z with z | z
        · exact .inl z
        · rw [upd_ne n] at z; exact .inr z
    · obtain ⟨z1, sc, z2, z3⟩ := w1 r hr
      have n : r ≠ p := fun z => cD (by rw [hr, z])
      exact ⟨by rw [upd_ne n]; exact z1, sc, by rw [upd_ne n]; exact z2, sb_sqL sI z3⟩
  · cases h
def dgetD : D → D → Option D
  | .dS es, .str k => lookD es k
  | _, _ => none
theorem sn_dget {K : Kx} {td ty : TE} {dd dy : Dn} (h0 : SndE K td dd) (h1 : SndE K ty dy) : SndE K (tDGet td ty) (dOp dgetD dd dy) := fun c I H σ ρ s d s' e h Q q => by
  obtain ⟨⟨x, s1⟩, h2, h⟩ := bind_some_of h
  obtain ⟨⟨y, s2⟩, h3, h⟩ := bind_some_of h
  obtain ⟨z, h4, h⟩ := map_some_of h
  cases h
  refine h0 _ _ _ _ _ _ _ _ e h2 _ fun v I1 H1 g1 w1 r1 => ?_
  refine h1 _ _ _ _ _ _ _ _ (e.grow g1 w1) h3 _ fun u I2 H2 g2 w2 r2 => ?_
  unfold dgetD at h4
  split at h4
  · rename_i es k hx hy
    have hx : x = .dS es := hx
    have hy : y = .str k := hy
    subst hx hy
    cases r2
    cases r1 with
    | dS hI rs =>
      obtain ⟨v, h5, h6⟩ := (rs.mono g2.s1).look h4
      exact ⟨_, v, rfl, .inl ⟨_, Sum.inr k, g2.s2.dK (g2.s1 _ _ hI), rfl, h5.symm⟩, q _ I2 H2 (g1.tr w1 g2) w2 h6⟩
  · cases h4
/-- d.get(k, x) -/
def dget2D (d k x : D) : Option D := match d, k with
  | .dS es, .str k => some ((lookD es k).getD x)
  | _, _ => none
def dGet2 (dd dy dx : Dn) : Dn := fun ρ s => (dd ρ s).bind fun p => (dy ρ p.2).bind fun q => (dx ρ q.2).bind fun r => (dget2D p.1 q.1 r.1).map fun z => (z, r.2)
theorem sn_dget2 {K : Kx} {td ty tx : TE} {dd dy dx : Dn} (h0 : SndE K td dd) (h1 : SndE K ty dy) (h2 : SndE K tx dx) : SndE K (tDGet2 td ty tx) (dGet2 dd dy dx) := fun c I H σ ρ s d s' e h Q q => by
  obtain ⟨⟨x, s1⟩, ha, h⟩ := bind_some_of h
  obtain ⟨⟨y, s2⟩, hb, h⟩ := bind_some_of h
  obtain ⟨⟨t, s3⟩, hc, h⟩ := bind_some_of h
  obtain ⟨z, h4, h⟩ := map_some_of h
  cases h
  unfold dget2D at h4
  split at h4
  · rename_i es k hx hy
    have hx : x = .dS es := hx
    have hy : y = .str k := hy
    subst hx hy
    refine h0 _ _ _ _ _ _ _ _ e ha _ fun v I1 H1 g1 w1 r1 => ?_
    cases r1 with
    | dS hI rs =>
      refine ⟨_, rfl, .inl ⟨_, g1.s2.dK hI⟩, ?_⟩
      refine h1 _ _ _ _ _ _ _ _ (e.grow g1 w1) hb _ fun u I2 H2 g2 w2 r2 => ?_
      have g12 := g1.tr w1 g2
      refine h2 _ _ _ _ _ _ _ _ (e.grow g12 w2) hc _ fun w I3 H3 g3 w3 r3 => ?_
      cases r2
      have rs3 := (rs.mono g2.s1).mono g3.s1
      refine ⟨_, .inl ⟨_, Sum.inr k, g3.s2.dK (g3.s1 _ _ (g2.s1 _ _ hI)), rfl, rfl⟩, ?_⟩
      cases hl : lookD es k with
      | some d1 =>
        rw [hl] at h4
        cases h4
        obtain ⟨v1, h5, h6⟩ := rs3.look hl
        rw [h5]
        exact q _ I3 H3 (g12.tr w2 g3) w3 h6
      | none =>
        rw [hl] at h4
        cases h4
        rw [rs3.none hl]
        exact q _ I3 H3 (g12.tr w2 g3) w3 r3
  · cases h4
section
variable {X : Cx} {o i : Expr} {td ty : TE} {dd dy : Dn} {pos : Pos} {k : Nat}
structure EP2 (X : Cx) (pos : Pos) (keys : List (Option Expr)) (values : List Expr) (trs : List (TE × TE)) (dp : Dp2) : Prop where
  p : PPs X pos keys values trs
  s : SndP X.kx trs dp
theorem ep_nil : EP2 X pos [] [] [] dpNil := ⟨pps_nil, sp_nil⟩
theorem ep_cons {x v : Expr} {ks : List (Option Expr)} {vs : List Expr} {tk tv : TE} {dk dv : Dn} {trs : List (TE × TE)} {dr : Dp2} (hk : EE X x tk dk) (hv : EE X v tv dv) (hr : EP2 X pos ks vs trs dr) : EP2 X pos (some x :: ks) (v :: vs) ((tk, tv) :: trs) (dpCons dk dv dr) :=
  ⟨pps_cons hk.p hv.p hr.p, sp_cons hk.s hv.s hr.s⟩
theorem ee_disp {keys : List (Option Expr)} {values : List Expr} {trs : List (TE × TE)} {dp : Dp2} (h : EP2 X pos keys values trs dp) (hall : keys.all (fun z => z.isSome) = true := by rfl) (hl : keys.length = values.length := by rfl) (h0 : keys ≠ [] := by exact fun z => by cases z) (h15 : keys.length ≤ 15 := by decide) :
    EE X (.Dict keys values pos) (tDisp trs) (dDisp dp) := ⟨pe_disp h.p hall hl h0 h15, sn_disp h.s⟩
theorem ee_dget (hr : Room k X.A) (ho : EE X o td dd) (hi : EE X i ty dy) (hs : NoSl i := by exact fun _ _ => rfl) : EE X (.Subscript o i pos) (tDGet td ty) (dOp dgetD dd dy) := ⟨pe_dget (hu_of hr) ho.p hi.p hs, sn_dget ho.s hi.s⟩
end
end Dl
end
section
set_option Elab.async false
set_option linter.all false
set_option maxRecDepth 100000
set_option maxHeartbeats 4000000
namespace Dl
open PySem PySem.Spec PyProof.Rows L2 StX

/-! two readings for one expression -/
theorem pe_or {X : Cx} {e : Expr} {t u : TE} (h1 : PE X e t) (h2 : PE X e u) : PE X e (fun σ H Q => t σ H Q ∨ u σ H Q) :=
  ⟨fun pins s σ H Q I h => h.elim (h1.run pins s σ H Q I) (h2.run pins s σ H Q I)⟩

/-! the keys of a text dict, walked in a comprehension -/
def dKeys (i : Nat) : Da := fun ρ s => match ρ[i]? with
  | some (.im (.dS es)) => some (es.map fun z => D.str z.1, s)
  | _ => none
section
variable {K : Kx} {c : Option Addr} {I H H1 : Hp}
theorem RepS.key : ∀ {kvs : List (Key × V)} {es : List (Str × D)} {i : Nat} {z : Str × D}, RepS K c I kvs es → es[i]? = some z → ∃ v, kvs[i]? = some (.inr z.1, v) ∧ Rep K c I v z.2
  | _, _, _, _, .nil, h => by cases h
  | _, _, 0, z, .cons a r, h => by cases h; exact ⟨_, rfl, a⟩
  | _, _, i + 1, z, .cons a r, h => RepS.key (i := i) r h
theorem OwOk.at_ {p : Addr} {d : D} (h : OwOk K c I H p d) (e : ∀ a, I a = none → H a ≠ none → H1 a = H a) : OwOk K c I H1 p d := by
  cases h with
  | lst h1 h2 h3 h4 => exact .lst (by rw [e _ h3 (by rw [h1]; simp)]; exact h1) h2 h3 h4
  | dS h1 h2 h3 h4 => exact .dS (by rw [e _ h3 (by rw [h1]; simp)]; exact h1) h2 h3 h4
theorem SlL.at_ (e : ∀ a, I a = none → H a ≠ none → H1 a = H a) : ∀ {σ : L2.St} {ρ : List Sl}, SlL K c I H σ ρ → SlL K c I H1 σ ρ
  | _, _, .nil => .nil
  | _, _, .cons (.un o) r => .cons (.un o) (SlL.at_ e r)
  | _, _, .cons (.im a) r => .cons (.im a) (SlL.at_ e r)
  | _, _, .cons (.ow a) r => .cons (.ow (a.at_ e)) (SlL.at_ e r)
theorem sn_lcK {g : TG} {dg : Dg} {i : Nat} {js vs : List Nat} {tt : TT} {bt : Dt} {te : TE} {de : Dn} (hg : SndG K g dg js) (hj : ∀ k ∈ js, k ∈ vs) (ht : SndT K tt bt) (he : SndE K te de) :
    SndE K (fun σ H Q => tLc (iKeys (tVar i)) g tt te vs σ H Q ∨ tLockE (tLc (iKeys (tVar i)) g tt te vs) σ H Q) (dLc (dKeys i) dg bt de vs) := fun c I H σ ρ s d s' e h Q q => by
  have h0 := h
  obtain ⟨⟨xs, s1⟩, h1, _⟩ := bind_some_of h
  obtain ⟨es, hes, rfl, rfl⟩ : ∃ es, ρ[i]? = some (.im (.dS es)) ∧ xs = es.map (fun z => D.str z.1) ∧ s1 = s := by
    unfold dKeys at h1
    split at h1
    · rename_i es q
      cases h1
      exact ⟨es, q, rfl, rfl⟩
    · cases h1
  obtain ⟨v, hv, rv⟩ := e.imm hes
  cases rv with
  | @dS a kvs _ hI r =>
    have ca : c ≠ some a := fun z => by
      obtain ⟨z1, _⟩ := e.w a z
      rw [hI] at z1; cases z1
    -- over a locked dict
    have key : ∀ (H1 : Hp) (ob : Obj), Ec K c I H1 σ ρ s1 → H1 a = some (.frz ob (.dK kvs)) → ∀ (Q1 : VK), (∀ v I' H', Gr c I H1 I' H' → DW K c s' I' H' → Rep K c I' v d → Q1 v H') → tLc (iKeys (tVar i)) g tt te vs σ H1 Q1 := fun H1 ob e1 hf Q1 q1 =>
      lc_core hg hj ht he e1 (fun xs s2 h2 R hR => by
        rw [h1] at h2
        cases h2
        refine ⟨_, hv, a, ob, rfl, .inl ⟨kvs, hf, hR _ I H1 (.refl e1.sub) e1.w fun I2 H2 s12 s22 kp => ?_⟩⟩
        have h2a := kp a _ ca hf
        refine ⟨fun j d' hd => ?_, h2a, by rw [List.length_map, r.length]; exact Nat.le_refl _⟩
        rw [List.getElem?_map] at hd
        obtain ⟨z, hz, rfl⟩ := map_some_of hd
        obtain ⟨v', hk, _⟩ := r.key hz
        refine ⟨⟨h2a, (List.getElem?_eq_some_iff.mp hk).1⟩, fun x H3 hy => ?_⟩
        obtain ⟨rfl, k, w, hw, rfl⟩ := hy
        rw [hk] at hw
        cases hw
        exact ⟨I2, .refl s22, .str _⟩) h0 Q1 q1
    rcases e.sub a _ hI with hf | ⟨_, ob, hf⟩
    · right
      refine ⟨a, .dK kvs, hf, trivial, fun od => ?_⟩
      have ne : ∀ b, I b = none → upd H a (.frz od (.dK kvs)) b = H b := fun b hb => upd_ne fun z => by
        subst z
        rw [hI] at hb; cases hb
      have e1 : Ec K c I (upd H a (.frz od (.dK kvs))) σ ρ s1 := by
        refine ⟨fun b o hb => ?_, fun rr hr => ?_, e.sl.at_ fun b hb _ => ne b hb, e.uq⟩
        · by_cases z : b = a
          · subst z
            rw [hI] at hb; cases hb
            exact .inr ⟨⟨_, rfl⟩, od, upd_same⟩
          · rw [upd_ne z]; exact e.sub b o hb
        · obtain ⟨z1, sc, z2, z3⟩ := e.w rr hr
          exact ⟨z1, sc, by rw [ne rr z1]; exact z2, z3⟩
      refine key _ od e1 upd_same _ fun v I' H' g' w' r' => ?_
      have ha' := g'.kp a _ ca upd_same
      refine ⟨ha', q v I' _ ⟨g'.s1, fun b o hb => ?_, fun b o nb hb => ?_, fun b hb => ?_⟩ (fun rr hr => ?_) r'⟩
      · by_cases z : b = a
        · subst z
          rw [g'.s1 b _ hI] at hb; cases hb
          exact .inl upd_same
        · rw [upd_ne z]; exact g'.s2 b o hb
      · by_cases z : b = a
        · subst z
          rw [hf] at hb; cases hb
          exact upd_same
        · rw [upd_ne z]
          exact g'.kp b o nb (by rw [upd_ne z]; exact hb)
      · rcases g'.nw b hb with z | z
        · exact .inl z
        · by_cases n : b = a
          · subst n; rw [upd_same] at z; cases z
          · rw [upd_ne n] at z; exact .inr z
      · obtain ⟨z1, sc, z2, z3⟩ := w' rr hr
        have n : rr ≠ a := fun z => by rw [z] at hr; exact ca hr
        exact ⟨z1, sc, by rw [upd_ne n]; exact z2, z3⟩
    · left
      exact key H ob e hf Q q
end
section
variable {X : Cx}
theorem ee_lcK {elt tg : Expr} {i : Nat} {x : Str} {px : Pos} {ifs : List Expr} {scope : Scope} {own : List (Str × Nat)} {pos : Pos} {g : TG} {dg : Dg} {js : List Nat} {tt : TT} {bt : Dt} {te : TE} {de : Dn} (hc : X.calm = true) (hN : X.N.Nodup) (hx : EE X (.Name x px) (tVar i) (dVar i))
    (ok : blkC X.N X.env.scope scope own = true) (hg : EGb X scope tg g dg js) (ht : ETb X scope ifs tt bt) (he : EEb X scope elt te de) (hj : ∀ k ∈ js, k ∈ own.map (fun z => z.2) := by decide) (hs : ∀ y, foldedSetIterable (.Name x px) X.env y = pure y := by intro _; rfl) :
    EE X (.ListComp elt [⟨tg, .Name x px, ifs, 0⟩] scope pos) (fun σ H Q => tLc (iKeys (tVar i)) g tt te (own.map (fun z => z.2)) σ H Q ∨ tLockE (tLc (iKeys (tVar i)) g tt te (own.map (fun z => z.2))) σ H Q) (dLc (dKeys i) dg bt de (own.map (fun z => z.2))) :=
  have h1 := pe_lc (elt := elt) (pos := pos) hc hN (pi_keys (tg := tg) hx.p) (blkOk_by ok) hg.p ht.p he.p hs
  ⟨pe_or h1 (pe_lock h1), sn_lcK hg.s hj ht.s he.s⟩
end
end Dl
end
section
set_option Elab.async false
set_option linter.all false
set_option maxRecDepth 100000
set_option maxHeartbeats 4000000
namespace Dl
open PySem PySem.Spec PyProof.Rows L2 StX

/-! new things, owned by one name -/
def SndF (K : Kx) (te : TE) (dn : Dn) : Prop := ∀ c I H σ ρ s d s', Ec K c I H σ ρ s → dn ρ s = some (d, s') →
  ∀ Q : VK, (∀ p I' H', Gr c I H I' H' → DW K c s' I' H' → OwOk K c I' H' p d → H p = none → Q (.ref p) H') → te σ H Q
structure EF (X : Cx) (e : Expr) (te : TE) (dn : Dn) : Prop where
  p : PE X e te
  s : SndF X.kx te dn
def dNewK : Dn := fun _ s => some (.dS [], s)
section
variable {K : Kx} {c : Option Addr} {I H I' H' I0 H0 : Hp} {σ : L2.St} {ρ : List Sl} {s s' : Tau} {p : Addr} {d : D}
theorem DW.ne (w : DW K c s I H) (h : H p = none) : c ≠ some p := fun z => by
  obtain ⟨_, sc, z2, _⟩ := w p z
  rw [h] at z2; cases z2
theorem sf_newK : SndF K tDNewK dNewK := fun c I H σ ρ s d s' e h Q q => by
  cases h
  intro p hp
  have hI := e.sub.free hp
  refine q p I _ ⟨.refl _, fun a o z => by rw [upd_ne (ne_of_none z hI)]; exact e.sub a o z, fun a o _ z => by rw [upd_ne (ne_of_none z hp)]; exact z, fun a z => .inl z⟩ (fun r hr => ?_) (.dS upd_same .nil hI (e.w.ne hp)) hp
  obtain ⟨z1, sc, z2, z3⟩ := e.w r hr
  exact ⟨z1, sc, by rw [upd_ne (ne_of_none z2 hp)]; exact z2, z3⟩
theorem sf_disp {trs : List (TE × TE)} {dr : Dp2} (h1 : SndP K trs dr) : SndF K (tDisp trs) (dDisp dr) := fun c I H σ ρ s d s' e h Q q => by
  obtain ⟨⟨es, s1⟩, ha, h⟩ := bind_some_of h
  split at h
  · rename_i hl
    cases h
    intro p hp
    have cD : c ≠ some p := e.w.ne hp
    have hI := e.sub.free hp
    have g0 : Gr c I H I (upd H p (.dK [])) := ⟨.refl _, fun a o z => by rw [upd_ne (ne_of_none z hI)]; exact e.sub a o z, fun a o _ z => by rw [upd_ne (ne_of_none z hp)]; exact z, fun a z => .inl z⟩
    have w0 : DW K c s I (upd H p (.dK [])) := fun r hr => by
      obtain ⟨z1, sc, z2, z3⟩ := e.w r hr
      exact ⟨z1, sc, by rw [upd_ne (ne_of_none z2 hp)]; exact z2, z3⟩
    refine h1 _ _ _ _ _ _ _ _ (e.grow g0 w0) ha _ fun kvs I1 H1 g1 w1 r1 => ?_
    have hp1 : H1 p = some (.dK []) := g1.kp _ _ cD upd_same
    have hI1 : I1 p = none := by
      cases qq : I1 p with
      | none => rfl
      | some o =>
        rcases g1.nw p (by rw [qq]; simp) with z | z
        · exact absurd hI z
        · rw [upd_same] at z; cases z
    refine ⟨hp1, kvs, rfl, by rw [r1.length]; exact hl, q p I1 _ ⟨g0.s1.trans g1.s1, fun a o z => ?_, fun a o n z => ?_, fun a z => ?_⟩ (fun r hr => ?_) (.dS upd_same (RepS.merge r1 .nil) hI1 cD) hp⟩
    · rw [upd_ne (ne_of_none z hI1)]; exact g1.s2 a o z
    · rw [upd_ne (ne_of_none z hp)]
      exact g1.kp a o n (g0.kp a o n z)
    · rcases g1.nw a z with z | z
      · exact .inl z
      · by_cases n : a = p
        · subst n; exact .inr hp
        · rw [upd_ne n] at z; exact .inr z
    · obtain ⟨z1, sc, z2, z3⟩ := w1 r hr
      have n : r ≠ p := fun z => cD (by rw [hr, z])
      exact ⟨z1, sc, by rw [upd_ne n]; exact z2, z3⟩
  · cases h
/-- a new list from a written one -/
theorem sf_lst {tx : TA} {ax : Da} (h1 : SndA K tx ax) : SndF K (tLst tx) (dLst ax) := fun c I H σ ρ s d s' e h Q q => by
  obtain ⟨⟨xs, s1⟩, ha, h⟩ := bind_some_of h
  split at h
  · rename_i hl
    have hl : xs.length ≤ 1000000 := hl
    cases h
    refine h1 _ _ _ _ _ _ _ _ e ha _ fun vs I1 H1 g1 w1 r1 => ⟨?_, fun p hp => ?_⟩
    · rw [r1.length]
      exact Nat.le_trans hl (by decide)
    · have hI := g1.s2.free hp
      have h0 : H p = none := by
        cases qq : H p with
        | none => rfl
        | some o =>
          rw [g1.kp p o (w1.ne hp) qq] at hp; cases hp
      refine q p I1 _ ⟨g1.s1, fun a o z => by rw [upd_ne (ne_of_none z hI)]; exact g1.s2 a o z, fun a o n z => by rw [upd_ne (ne_of_none z h0)]; exact g1.kp a o n z, g1.nw⟩ (fun r hr => ?_) (.lst upd_same r1 hI (w1.ne hp)) h0
      obtain ⟨z1, sc, z2, z3⟩ := w1 r hr
      exact ⟨z1, sc, by rw [upd_ne (ne_of_none z2 hp)]; exact z2, z3⟩
  · cases h
/-- the owned thing is set -/
theorem Uq.setO {i : Nat} (e : Ec K c I H σ ρ s) (h : ∀ (j : Nat) (d : D), j ≠ i → σ[j]? = some (some (V.ref p)) → ρ[j]? = some (.ow d) → False) : Uq (σ.set i (some (.ref p))) (ρ.set i (.ow d)) := fun k j q d1 d2 hne h1 h2 h3 h4 => by
  by_cases hk : k = i
  · subst hk
    have nj : j ≠ k := fun z => hne z.symm
    rw [List.getElem?_set_ne (Ne.symm nj)] at h2 h4
    rw [List.getElem?_set] at h1
    simp only [if_true] at h1
    split at h1
    · cases h1; exact h j d2 nj h2 h4
    · cases h1
  · rw [List.getElem?_set_ne (Ne.symm hk)] at h1 h3
    by_cases hj : j = i
    · subst hj
      rw [List.getElem?_set] at h2
      simp only [if_true] at h2
      split at h2
      · cases h2; exact h k d1 hk h1 h3
      · cases h2
    · rw [List.getElem?_set_ne (Ne.symm hj)] at h2 h4
      exact e.uq k j q d1 d2 hne h1 h2 h3 h4
theorem EnvS.setO (e : EnvS K c I0 H0 I H σ ρ s) (o : OwOk K c I H p d) (n : ∀ (j : Nat) (d : D), σ[j]? = some (some (V.ref p)) → ρ[j]? = some (.ow d) → False) (h0 : H0 p = none) (i : Nat) : EnvS K c I0 H0 I H (σ.set i (some (.ref p))) (ρ.set i (.ow d)) s :=
  ⟨⟨e.env.sub, e.env.w, .set (.ow o) i e.env.sl, .setO e.env fun j d _ => n j d⟩, e.s0, e.kp, e.nw, fun j q d' h1 h2 => by
    by_cases z : j = i
    · subst z
      rw [List.getElem?_set] at h1
      simp only [if_true] at h1
      split at h1
      · cases h1; exact h0
      · cases h1
    · rw [List.getElem?_set_ne (Ne.symm z)] at h1 h2
      exact e.fr j q d' h1 h2, e.nc⟩
/-- what a slot owns stands in the heap -/
theorem OwOk.some_ (h : OwOk K c I H p d) : H p ≠ none := by
  cases h with
  | lst h1 => rw [h1]; simp
  | dS h1 => rw [h1]; simp
theorem OwOk.fr (h : OwOk K c I H p d) : I p = none ∧ c ≠ some p := by
  cases h with
  | lst _ _ h3 h4 => exact ⟨h3, h4⟩
  | dS _ _ h3 h4 => exact ⟨h3, h4⟩
theorem Ec.ow (e : Ec K c I H σ ρ s) {i : Nat} (h : ρ[i]? = some (.ow d)) : ∃ p, σ[i]? = some (some (.ref p)) ∧ OwOk K c I H p d := by
  obtain ⟨v, h1, h2⟩ := e.sl.get h
  cases h2 with
  | ow r => exact ⟨_, h1, r⟩
end
def dOwn (da : Dn) (i : Nat) : Ds := fun ρ s => (da ρ s).map fun p => (.nx (ρ.set i (.ow p.1)), p.2)
/-- what is owned is owned no more: from here on it stays as it is -/
def dFrz (i : Nat) (b : Ds) : Ds := fun ρ s => match ρ[i]? with
  | some (.ow d) => b (ρ.set i (.im d)) s
  | _ => none
def dRetO (i : Nat) : Ds := fun ρ s => match ρ[i]? with
  | some (.ow d) => some (.rt d true, s)
  | _ => none
def dDPut (i : Nat) (dk dv : Dn) : Ds := fun ρ s => (dv ρ s).bind fun v => (dk ρ v.2).bind fun k => match k.1, ρ[i]? with
  | .str x, some (.ow (.dS es)) => if es.length < 1000000 then some (.nx (ρ.set i (.ow (.dS (putD es x v.1)))), k.2) else none
  | _, _ => none
section
variable {K : Kx} {te ty tv : TE} {da dk dv : Dn} {t : TS} {b : Ds}
theorem ss_own (h1 : SndF K te da) (i : Nat) : SndS K (tAsg te (gName i)) (dOwn da i) := fun c I0 H0 I H σ ρ s o s' e h D q => by
  obtain ⟨⟨x, s1⟩, ha, h⟩ := map_some_of h
  cases h
  refine h1 _ _ _ _ _ _ _ _ e.env ha _ fun p I1 H1 g1 w1 o1 hp => ?_
  refine q _ _ _ ((e.grow g1 w1).setO o1 (fun j d a b => ?_) (e.old hp) i)
  obtain ⟨p2, hp2, o2⟩ := e.env.ow b
  rw [a] at hp2
  cases hp2
  exact o2.some_ hp
theorem EnvS.frz {c : Option Addr} {I0 H0 I H : Hp} {σ : L2.St} {ρ : List Sl} {s : Tau} {d : D} {i : Nat} (e : EnvS K c I0 H0 I H σ ρ s) (h : ρ[i]? = some (.ow d)) : ∃ I', Sb I I' ∧ EnvS K c I0 H0 I' H σ (ρ.set i (.im d)) s := by
  obtain ⟨p, hp, o⟩ := e.env.ow h
  obtain ⟨fI, cp⟩ := o.fr
  have h0 := e.fr i p d hp h
  have others : ∀ (ob : HO), ∀ {σ' : L2.St} {ρ' : List Sl}, (∀ (j : Nat) (d : D), σ'[j]? = some (some (V.ref p)) → ρ'[j]? = some (.ow d) → False) → SlL K c I H σ' ρ' → SlL K c (upd I p ob) H σ' ρ' := fun ob {σ' ρ'} n sl => by
    have sI : Sb I (upd I p ob) := fun a u z => by rw [upd_ne (ne_of_none z fI)]; exact z
    induction sl with
    | nil => exact .nil
    | @cons v x σ2 ρ2 a r ih =>
      refine .cons ?_ (ih fun j d z1 z2 => n (j + 1) d (by simpa using z1) (by simpa using z2))
      cases a with
      | un => exact .un _
      | im a => exact .im (a.mono sI)
      | @ow p2 d2 o2 =>
        have np : p2 ≠ p := fun z => n 0 d2 (by rw [z]; rfl) rfl
        refine .ow ?_
        cases o2 with
        | lst h1 h2 h3 h4 => exact .lst h1 (h2.mono sI) (by rw [upd_ne np]; exact h3) h4
        | dS h1 h2 h3 h4 => exact .dS h1 (h2.mono sI) (by rw [upd_ne np]; exact h3) h4
  have fin : ∀ (ob : HO), H p = some ob → Rep K c (upd I p ob) (.ref p) d → ∃ I', Sb I I' ∧ EnvS K c I0 H0 I' H σ (ρ.set i (.im d)) s := fun ob hb r => by
    have sI : Sb I (upd I p ob) := fun a u z => by rw [upd_ne (ne_of_none z fI)]; exact z
    refine ⟨upd I p ob, sI, ⟨fun a u z => ?_, fun rr hr => ?_, ?_, ?_⟩, e.s0.trans sI, e.kp, fun a z => ?_, fun j q d' h1 h2 => ?_, e.nc⟩
    · by_cases n : a = p
      · subst n; rw [upd_same] at z; cases z; exact .inl hb
      · rw [upd_ne n] at z; exact e.env.sub a u z
    · obtain ⟨z1, sc, z2, z3⟩ := e.env.w rr hr
      have n : rr ≠ p := fun z => cp (by rw [hr, z])
      exact ⟨by rw [upd_ne n]; exact z1, sc, z2, sb_sqL sI z3⟩
    · have slot : SlL K c I H σ (ρ.set i .un) := by
        have := SlL.set (v := some (V.ref p)) (x := .un) (.un _) i e.env.sl
        have eq : σ.set i (some (V.ref p)) = σ := by
          apply List.ext_getElem?
          intro j
          by_cases z : i = j
          · subst z
            rw [List.getElem?_set]
            have hl := (List.getElem?_eq_some_iff.mp hp).1
            simp only [if_true, hl, hp]
          · rw [List.getElem?_set_ne z]
        rw [eq] at this
        exact this
      have s2 := others ob (σ' := σ) (ρ' := ρ.set i .un) (fun j d' z1 z2 => by
        by_cases z : i = j
        · subst z
          rw [List.getElem?_set] at z2
          simp only [if_true] at z2
          split at z2 <;> cases z2
        · rw [List.getElem?_set_ne z] at z2
          exact e.env.uq i j p d d' z hp z1 h z2) slot
      have s3 := SlL.set (v := some (V.ref p)) (x := .im d) (.im r) i s2
      have eq : σ.set i (some (V.ref p)) = σ := by
        apply List.ext_getElem?
        intro j
        by_cases z : i = j
        · subst z
          rw [List.getElem?_set]
          have hl := (List.getElem?_eq_some_iff.mp hp).1
          simp only [if_true, hl, hp]
        · rw [List.getElem?_set_ne z]
      rw [eq, List.set_set] at s3
      exact s3
    · have u := e.env.uq.setI (i := i) (v := some (V.ref p)) (x := .im d) (fun _ z => by cases z)
      have eq : σ.set i (some (V.ref p)) = σ := by
        apply List.ext_getElem?
        intro j
        by_cases z : i = j
        · subst z
          rw [List.getElem?_set]
          have hl := (List.getElem?_eq_some_iff.mp hp).1
          simp only [if_true, hl, hp]
        · rw [List.getElem?_set_ne z]
      rw [eq] at u
      exact u
    · by_cases n : a = p
      · subst n; exact .inr h0
      · rw [upd_ne n] at z; exact e.nw a z
    · by_cases z : i = j
      · subst z
        rw [List.getElem?_set] at h2
        simp only [if_true] at h2
        split at h2 <;> cases h2
      · rw [List.getElem?_set_ne z] at h2
        exact e.fr j q d' h1 h2
  cases o with
  | @lst vs ds h1 h2 h3 h4 =>
    have sI : Sb I (upd I p (.lst vs)) := fun a u z => by rw [upd_ne (ne_of_none z fI)]; exact z
    exact fin (.lst vs) h1 (.lst upd_same (h2.mono sI))
  | @dS vs ds h1 h2 h3 h4 =>
    have sI : Sb I (upd I p (.dK vs)) := fun a u z => by rw [upd_ne (ne_of_none z fI)]; exact z
    exact fin (.dK vs) h1 (.dS upd_same (h2.mono sI))
theorem ss_frz {i : Nat} (h1 : SndS K t b) : SndS K t (dFrz i b) := fun c I0 H0 I H σ ρ s o s' e h D q => by
  unfold dFrz at h
  split at h
  · rename_i d hd
    obtain ⟨I', _, e'⟩ := e.frz hd
    exact h1 _ _ _ _ _ _ _ _ _ _ e' h D q
  · cases h
theorem ss_retO (i : Nat) : SndS K (tRet (tVar i)) (dRetO i) := fun c I0 H0 I H σ ρ s o s' e h D q => by
  unfold dRetO at h
  split at h
  · rename_i d hd
    cases h
    obtain ⟨p, hp, o⟩ := e.env.ow hd
    exact ⟨.ref p, hp, q p I H e.gr e.env.w o (e.fr i p d hp hd)⟩
  · cases h
theorem RepS.putL {c : Option Addr} {I : Hp} {kvs : List (Key × V)} {es : List (Str × D)} {k : Str} {v : V} {d : D} (r : RepS K c I kvs es) (rv : Rep K c I v d) : RepS K c I (putK kvs (.inr k) v) (putD es k d) := r.put rv
theorem ss_dput (i : Nat) (hk : SndE K ty dk) (hv : SndE K tv dv) : SndS K (sDPut (tVar i) ty tv) (dDPut i dk dv) := fun c I0 H0 I H σ ρ s o s' e h En q => by
  obtain ⟨⟨y, s1⟩, ha, h⟩ := bind_some_of h
  obtain ⟨⟨x, s2⟩, hb, h⟩ := bind_some_of h
  refine hv _ _ _ _ _ _ _ _ e.env ha _ fun v I1 H1 g1 w1 r1 => ?_
  have e1 := e.grow g1 w1
  split at h
  · rename_i k es hkk hs
    have hkk : x = .str k := hkk
    subst hkk
    split at h
    · rename_i hl
      cases h
      obtain ⟨p, hp, _⟩ := e1.env.ow hs
      refine ⟨.ref p, hp, hk _ _ _ _ _ _ _ _ e1.env hb _ fun u I2 H2 g2 w2 r2 => ?_⟩
      have e2 := e1.grow g2 w2
      obtain ⟨p2, hp2, o2⟩ := e2.env.ow hs
      rw [hp] at hp2
      cases hp2
      cases r2 with
      | str =>
        cases o2 with
        | @dS kvs _ h1 h2 h3 h4 =>
          refine ⟨p, _, rfl, .inl ⟨kvs, .inr k, h1, rfl, ?_, rfl⟩, ?_⟩
          · rw [h2.length]; exact Nat.lt_of_lt_of_le hl (by decide)
          · have rr := h2.putL (k := k) (r1.mono g2.s1)
            have h0 := e2.fr i p _ hp hs
            have others : ∀ a, I2 a = none → a ≠ p → upd H2 p (.dK (putK kvs (.inr k) v)) a = H2 a := fun a _ n => upd_ne n
            have eq : σ.set i (some (V.ref p)) = σ := by
              apply List.ext_getElem?
              intro j
              by_cases z : i = j
              · subst z
                rw [List.getElem?_set]
                have hl := (List.getElem?_eq_some_iff.mp hp).1
                simp only [if_true, hl, hp]
              · rw [List.getElem?_set_ne z]
            have sl2 : ∀ {σ' : L2.St} {ρ' : List Sl}, (∀ (j : Nat) (d : D), σ'[j]? = some (some (V.ref p)) → ρ'[j]? = some (.ow d) → False) → SlL K c I2 H2 σ' ρ' → SlL K c I2 (upd H2 p (.dK (putK kvs (.inr k) v))) σ' ρ' := fun {σ' ρ'} n sl => by
              induction sl with
              | nil => exact .nil
              | @cons v x σ2 ρ2 a r ih =>
                refine .cons ?_ (ih fun j d z1 z2 => n (j + 1) d (by simpa using z1) (by simpa using z2))
                cases a with
                | un => exact .un _
                | im a => exact .im a
                | @ow p2 d2 o2 =>
                  have np : p2 ≠ p := fun z => n 0 d2 (by rw [z]; rfl) rfl
                  refine .ow ?_
                  cases o2 with
                  | lst h1 h2 h3 h4 => exact .lst (by rw [upd_ne np]; exact h1) h2 h3 h4
                  | dS h1 h2 h3 h4 => exact .dS (by rw [upd_ne np]; exact h1) h2 h3 h4
            have slot := SlL.set (v := some (V.ref p)) (x := .un) (.un _) i e2.env.sl
            rw [eq] at slot
            have s2' := sl2 (σ' := σ) (ρ' := ρ.set i .un) (fun j d' z1 z2 => by
              by_cases z : i = j
              · subst z
                rw [List.getElem?_set] at z2
                simp only [if_true] at z2
                split at z2 <;> cases z2
              · rw [List.getElem?_set_ne z] at z2
                exact e2.env.uq i j p _ d' z hp z1 hs z2) slot
            have s3 := SlL.set (v := some (V.ref p)) (x := .ow (.dS (putD es k y))) (.ow (.dS upd_same rr h3 h4)) i s2'
            rw [eq, List.set_set] at s3
            refine q _ I2 _ ⟨⟨fun a u z => ?_, fun rr hr => ?_, s3, ?_⟩, e2.s0, fun a u n z => ?_, e2.nw, fun j q' d' h1' h2' => ?_, e2.nc⟩
            · rw [upd_ne (ne_of_none z h3)]; exact e2.env.sub a u z
            · obtain ⟨z1, sc, z2, z3⟩ := e2.env.w rr hr
              have n : rr ≠ p := fun z => h4 (by rw [hr, z])
              exact ⟨z1, sc, by rw [upd_ne n]; exact z2, z3⟩
            · have u := Uq.setO (i := i) (p := p) (d := .dS (putD es k y)) e2.env (fun j d' nj z1 z2 => e2.env.uq i j p _ d' (Ne.symm nj) hp z1 hs z2)
              rw [eq] at u
              exact u
            · have n2 : a ≠ p := fun z2 => by rw [z2, h0] at z; cases z
              rw [upd_ne n2]; exact e2.kp a u n z
            · by_cases z : i = j
              · subst z
                rw [hp] at h1'; cases h1'
                exact h0
              · rw [List.getElem?_set_ne z] at h2'
                exact e2.fr j q' d' h1' h2'
    · cases h
  · cases h
end
end Dl
end
section
set_option Elab.async false
set_option linter.all false
set_option maxRecDepth 100000
set_option maxHeartbeats 4000000
namespace HT
open PySem PySem.Spec PyProof.Rows
section
variable {prog : Program} {w : World} {A : Around} {E : Value → Shared → Prop} {s : Shared}
theorem sliceApplied_rev {sl : Addr} {vl vu vs : Value} {n : Nat} {Q : Int × Int × Nat → Shared → Prop} (hs : s.heap.IsSliceOf sl vl vu vs) (pl : IsPart vl none) (pu : IsPart vu none) (ps : IsPart vs (some (-1)))
    (h : Q ((n : Int) - 1, -1, n) s) : wpAny (model prog w) A (Builtin.Slice.sliceApplied (.ref sl) (pure (n : Int))) Q E s := by
  obtain ⟨os, hos, hcs, hds⟩ := id hs
  unfold Builtin.Slice.sliceApplied Builtin.Slice.sliceFields
  refine wpAny_bind (wpAny_bind (wpAny_field hos hds (x := vl) rfl (wpAny_bind (wpAny_field hos hds (x := vu) rfl (wpAny_bind (wpAny_field hos hds (x := vs) rfl (wpAny_pure ?_)))))))
  refine wpAny_bind (slicePart_ ps ?_)
  show wpAny _ _ (if ((-1 : Int) == 0) = true then _ else _) _ _ s
  rw [if_neg (by decide)]
  refine wpAny_bind (slicePart_ pl (wpAny_bind (slicePart_ pu (wpAny_bind (wpAny_pure ?_)))))
  show wpAny _ _ (pure ((n : Int) - 1, (-1 : Int), Builtin.Slice.slicePlaces ((n : Int) - 1) (-1) (-1))) _ _ s
  have e : Builtin.Slice.slicePlaces ((n : Int) - 1) (-1) (-1) = n := by
    unfold Builtin.Slice.slicePlaces
    by_cases h0 : n = 0
    · subst h0; decide
    · simp only [show ¬ ((-1 : Int) > 0) by decide, if_false]
      split
      · rw [show (- -1 : Int) = 1 by decide, Int.ediv_one]; omega
      · omega
  rw [e]
  exact wpAny_pure h
theorem pick_rev (xs : Array Value) : ((List.range xs.size).filterMap fun (m : Nat) => xs[(((xs.size : Int) - 1) + (m : Int) * -1).toNat]?).toArray = xs.toList.reverse.toArray := by
  have e : ((List.range xs.size).filterMap fun (m : Nat) => xs[(((xs.size : Int) - 1) + (m : Int) * -1).toNat]?) = ((List.range xs.size).map fun k => xs.size - 1 - k).filterMap (xs[·]?) := by
    rw [List.filterMap_map]
    have key : ∀ l : List Nat, (∀ m ∈ l, m < xs.size) → (l.filterMap fun (m : Nat) => xs[(((xs.size : Int) - 1) + (m : Int) * -1).toNat]?) = l.filterMap ((fun k => xs[k]?) ∘ fun k => xs.size - 1 - k) := fun l => by
      induction l with
      | nil => exact fun _ => rfl
      | cons m l ih =>
        intro h
        have hm := h m List.mem_cons_self
        rw [List.filterMap_cons, List.filterMap_cons, ih fun z hz => h z (List.mem_cons_of_mem _ hz)]
        have e2 : (((xs.size : Int) - 1) + (m : Int) * -1).toNat = xs.size - 1 - m := by omega
        rw [e2]
        rfl
    exact key _ fun m hm => List.mem_range.mp hm
  rw [e, PySem.W.krv_range, List.filterMap_reverse, PySem.W.krv_all]
theorem getItem_tuple_rev {t sl : Addr} {items : Array Value} {vl vu vs : Value} {Q : Value → Shared → Prop} (ht : IsTup s.heap t items) (hs : s.heap.IsSliceOf sl vl vu vs) (pl : IsPart vl none) (pu : IsPart vu none) (ps : IsPart vs (some (-1)))
    (h : Q (.ref s.heap.objs.size) { s with heap := s.heap.push { cls := .type "tuple", data := .seq items.toList.reverse.toArray } })
    (hsz : items.size ≤ sizeLine) : wpAny (model prog w) A (getItem (.ref t) (.ref sl)) Q E s := by
  have htake : sizeOk (.seq items.toList.reverse.toArray) := by
    show items.toList.reverse.toArray.size ≤ sizeLine
    rw [List.size_toArray, List.length_reverse, Array.length_toList]
    exact hsz
  obtain ⟨os, hos, hcs, hds⟩ := id hs
  have hTs : s.TypeIs (.ref sl) "slice" := ⟨os, hos, hcs⟩
  unfold getItem
  try with_reducible refine wpAny_holding ?_
  first | refine wpAny_bind (wpAny_pure ?_) | skip
  refine wpAny_bind (wpAny_sequenceKey ht.typeIs (by decide) ?_)
  refine wpAny_bind (wpAny_callSpecial?_slot (name := Str.ofString "__getitem__") ht.typeIs PyProof.Rows.slot_tuple_getitem
    (wpAny_call_entry PyProof.Rows.slot_tuple_getitem ht.typeIs entry_tuple_getitem ?_ (args_tuple_getitem _ _)))
  show wpAny _ _ (Builtin.Tuple.tupleItemsOf (.ref t) >>= _) _ _ s
  refine wpAny_bind (tupleItemsOf_ ht ?_)
  refine wpAny_bind (wpAny_typeOf hTs ?_)
  rw [if_pos (by decide)]
  refine wpAny_bind (sliceApplied_rev hs pl pu ps ?_)
  have hno : ¬ ((((items.size : Int) - 1) == 0 && (-1 : Int) == 1 && items.size == items.size) = true) := by
    intro q
    rw [Bool.and_eq_true, Bool.and_eq_true] at q
    exact absurd q.1.2 (by decide)
  show wpAny _ _ (if (((items.size : Int) - 1) == 0 && (-1 : Int) == 1 && items.size == items.size) = true then _ else _) _ _ s
  rw [if_neg hno, pick_rev]
  first
    | exact wpAny_bind (m := Builtin.Tuple.tupleExact _) (wpAny_newObj_type (wpAny_pure ⟨_, rfl, wpAny_pure h⟩) htake)
    | exact wpAny_bind (m := Builtin.Tuple.tupleExact _) (wpAny_newObj_type (wpAny_bind (wpAny_pure (wpAny_pure ⟨_, rfl, wpAny_pure h⟩))) htake)
    | exact wpAny_bind (wpAny_bind (m := Builtin.Tuple.tupleExact _) (wpAny_newObj_type (wpAny_pure (wpAny_pure ⟨_, rfl, wpAny_pure h⟩)) htake))
    | exact wpAny_bind (wpAny_bind (m := Builtin.Tuple.tupleExact _) (wpAny_newObj_type (wpAny_pure ⟨_, rfl, wpAny_pure h⟩) htake))
end
end HT
namespace Dl
open PySem PySem.Spec PyProof.Rows L2 StX
/-! xs[::-1] of a tuple -/
def tRevT (K : Kx) (te : TE) : TE := fun σ H Q => te σ H fun x H1 => ∃ a xs, x = .ref a ∧ SqT K H1 a xs ∧ ∀ (p : Addr) (o : Obj), H1 p = none → TupO o → Q (.ref p) (upd H1 p (.frz o (.tup xs.reverse)))
theorem pe_revT {X : Cx} {e : Expr} {te : TE} {k : Nat} {p1 p2 p3 pos : Pos} (he : PE X e te) : PE X (.Subscript e (.Slice none none (some (.UnaryOp .USub (.Constant (.int 1) k p1) p2)) p3) pos) (tRevT X.kx te) := by
  refine ⟨fun pins s σ H Q I h => ?_⟩
  refine Subscript_ (thn (he.run pins s σ H _ I h) fun v s1 ⟨x, H1, I1, r1, q1⟩ => ?_)
  obtain ⟨a, xs, ex, hx, q⟩ := q1
  subst ex
  cases r1
  have hst : PO X (some (.UnaryOp .USub (.Constant (.int 1) k p1) p2)) (tPart (tUn (rU fun i => .int (-i)) (tC (.int 1)))) := po_some (pe_un un_neg pe_int)
  refine wpAny_Slice (thn (po_none.run pins s1 σ H1 (fun o H2 => o = none ∧ H2 = H1) I1 ⟨rfl, rfl⟩) fun vl s2 ⟨l, H2, I2, pl, el, e2⟩ => ?_)
  subst el e2
  refine thn (po_none.run pins s2 σ H2 (fun o H3 => o = none ∧ H3 = H2) I2 ⟨rfl, rfl⟩) fun vu s3 ⟨u, H3, I3, pu, eu, e3⟩ => ?_
  subst eu e3
  refine thn (hst.run pins s3 σ H3 (fun o H4 => o = some (-1) ∧ H4 = H3) I3 ⟨1, rfl, -1, rfl, rfl, rfl⟩) fun vs s4 ⟨o, H4, I4, ps, eo, e4⟩ => ?_
  subst eo e4
  have I5 : Inv X pins σ H4 { s4 with heap := s4.heap.push { cls := .type "slice", data := .fields #[vl, vu, vs] } } := I4.kept (t' := s4.toks) fun b ob q => Heap.get?_push_of_some _ q
  obtain ⟨its, r, ht, hz⟩ := I5.tuple hx
  have hlen : its.toArray.size = xs.length := by rw [List.size_toArray]; exact r.length.symm
  show wpAny (model X.prog X.w) X.A (subscriptTail e (.Slice none none (some (.UnaryOp .USub (.Constant (.int 1) k p1) p2)) p3) (.ref a) (.ref s4.heap.objs.size)) (EP X pins σ Q) X.xe { s4 with heap := s4.heap.push { cls := .type "slice", data := .fields #[vl, vu, vs] } }
  refine tail_any (ops := [.ref a, .ref s4.heap.objs.size]) ht.typeIs (PyProof.Rows.slot_tuple_getitem.lookup) ?_ (by with_unfolding_all rfl)
  refine HT.getItem_tuple_rev ht (Heap.IsSliceOf.new _ vl vu vs) pl pu ps ?_ (by rw [hlen]; exact hz)
  have hg : ((s4.heap.push { cls := .type "slice", data := .fields #[vl, vu, vs] }).push { cls := .type "tuple", data := .seq its.toArray.toList.reverse.toArray }).get? (s4.heap.push { cls := .type "slice", data := .fields #[vl, vu, vs] }).objs.size = some { cls := .type "tuple", data := .seq its.toArray.toList.reverse.toArray } := Heap.get?_push_size _ rfl
  refine ⟨.ref _, _, I5.laid (t' := s4.toks) (o := .frz { cls := .type "tuple", data := .seq its.toArray.toList.reverse.toArray } (.tup xs.reverse)) (fun b ob q => Heap.get?_push_of_some _ q) (Nat.le_refl _) ⟨hg, by rw [List.length_reverse]; exact hz, _, r.reverse, _, hg, rfl, _, rfl⟩, rfl, q _ _ (I5.hok.fresh (Nat.le_refl _)) ⟨rfl, rfl⟩⟩
def revD : D → Option D
  | .lst xs => some (.lst xs.reverse)
  | d => d.asT.map fun xs => .tup xs.reverse
theorem RepL.reverse {K : Kx} {c : Option Addr} {I : Hp} : ∀ {vs : List V} {ds : List D}, RepL K c I vs ds → RepL K c I vs.reverse ds.reverse
  | _, _, .nil => .nil
  | _, _, .cons a r => by
    rw [List.reverse_cons, List.reverse_cons]
    exact (RepL.reverse r).app (.one a)
theorem sn_rev {K : Kx} {te : TE} {da : Dn} (h1 : SndE K te da) : SndE K (fun σ H Q => tRevL K te σ H Q ∨ tRevT K te σ H Q) (dUn revD da) := fun c I H σ ρ s d s' e h Q q => by
  obtain ⟨⟨x, s1⟩, h2, h⟩ := bind_some_of h
  obtain ⟨z, h3, h⟩ := map_some_of h
  cases h
  have h3 : revD x = some _ := h3
  unfold revD at h3
  split at h3
  · cases h3
    left
    refine h1 _ _ _ _ _ _ _ _ e h2 _ fun v I1 H1 g1 w1 r1 => ?_
    cases r1 with
    | @lst a vs _ hI r =>
      refine ⟨a, vs, rfl, .of (g1.s2.lst hI), fun p hp => ?_⟩
      have g := Gr.new (o := .lst vs.reverse) g1.s2 hp
      exact q _ _ _ (g1.tr w1 g.up) (w1.gr g) (.lst upd_same (r.reverse.mono g.s1))
  · obtain ⟨xs, h4, rfl⟩ := map_some_of h3
    right
    refine h1 _ _ _ _ _ _ _ _ e h2 _ fun v I1 H1 g1 w1 r1 => ?_
    obtain ⟨a, vs, rfl, ha, ra⟩ := r1.asT h4
    refine ⟨a, vs, rfl, g1.s2.sqT ha, fun p o hp ho => ?_⟩
    have g := Gr.new (o := .frz o (.tup vs.reverse)) g1.s2 hp
    exact q _ _ _ (g1.tr w1 g.up) (w1.gr g) (.tup upd_same ho (ra.reverse.mono g.s1))
section
variable {X : Cx}
theorem ee_rev {e : Expr} {te : TE} {da : Dn} {k : Nat} {p1 p2 p3 pos : Pos} (he : EE X e te da) : EE X (.Subscript e (.Slice none none (some (.UnaryOp .USub (.Constant (.int 1) k p1) p2)) p3) pos) (fun σ H Q => tRevL X.kx te σ H Q ∨ tRevT X.kx te σ H Q) (dUn revD da) :=
  ⟨pe_or (pe_revL he.p) (pe_revT he.p), sn_rev he.s⟩
end
/-! x is True -/
def isBD : D → D → Option D
  | .bl a, .bl b => some (.bl (decide (a = b)))
  | _, _ => none
def notBD : D → D → Option D
  | .bl a, .bl b => some (.bl (!decide (a = b)))
  | _, _ => none
theorem s2_isB {K : Kx} : Snd2 K rIsB isBD := fun c I H x y d e z s rx ry h Q q => by
  unfold isBD at h
  split at h
  · cases h; cases rx; cases ry
    exact ⟨_, _, rfl, rfl, q.val s (.bl _)⟩
  · cases h
theorem s2_notB {K : Kx} : Snd2 K rNotB notBD := fun c I H x y d e z s rx ry h Q q => by
  unfold notBD at h
  split at h
  · cases h; cases rx; cases ry
    exact ⟨_, _, rfl, rfl, q.val s (.bl _)⟩
  · cases h
theorem cm_isB {X : Cx} : CM X .Is rIsB isBD := ⟨op_isBl, s2_isB⟩
theorem cm_notB {X : Cx} : CM X .IsNot rNotB notBD := ⟨op_notBl, s2_notB⟩
/-! owned things: statements -/
def dParO (i j : Nat) (da db : Dn) : Ds := fun ρ s => (da ρ s).bind fun p => (db ρ p.2).map fun q => (.nx ((ρ.set i (.ow p.1)).set j (.im q.1)), q.2)
theorem ss_parO {K : Kx} {t1 t2 : TE} {da db : Dn} (i j : Nat) (h1 : SndF K t1 da) (h2 : SndE K t2 db) : SndS K (tPar i j (tCons t1 (tCons t2 tNil))) (dParO i j da db) := fun c I0 H0 I H σ ρ s o s' e h D q => by
  obtain ⟨⟨x, s1⟩, ha, h⟩ := bind_some_of h
  obtain ⟨⟨y, s2⟩, hb, h⟩ := map_some_of h
  cases h
  refine h1 _ _ _ _ _ _ _ _ e.env ha _ fun p I1 H1 g1 w1 o1 hp => ?_
  have e1 := e.grow g1 w1
  refine h2 _ _ _ _ _ _ _ _ e1.env hb _ fun v I2 H2 g2 w2 r2 => ?_
  refine ⟨_, _, rfl, q _ _ _ (((e1.grow g2 w2).setO (o1.grow g2) (fun k d a b => ?_) (e.old hp) i).setI r2 j)⟩
  obtain ⟨p2, hp2, o2⟩ := e.env.ow b
  rw [a] at hp2
  cases hp2
  exact o2.some_ hp
section
variable {X : Cx} {e e1 e2 k v : Expr} {te ty tv t1 t2 : TE} {da dk dv db : Dn} {sts : List Stmt} {t : TS} {b : Ds} {pos pos' : Pos}
theorem ef_newK : EF X (.Dict [] [] pos) tDNewK dNewK := ⟨pe_dnewK, sf_newK⟩
theorem ef_disp {keys : List (Option Expr)} {values : List Expr} {trs : List (TE × TE)} {dp : Dp2} (h : EP2 X pos keys values trs dp) (hall : keys.all (fun z => z.isSome) = true := by rfl) (hl : keys.length = values.length := by rfl) (h0 : keys ≠ [] := by exact fun z => by cases z) (h15 : keys.length ≤ 15 := by decide) :
    EF X (.Dict keys values pos) (tDisp trs) (dDisp dp) := ⟨pe_disp h.p hall hl h0 h15, sf_disp h.s⟩
theorem es_own {i : Nat} {x : Str} (hN : X.N.Nodup) (hi : X.N[i]? = some x) (hx : Loc X.env.scope x) (he : EF X e te da) (hs : swapsWith e (some (.Name x pos')) pos.line X.env = pure false := by rfl) (hf : X.fn x = true ∨ X.env.scope.names.lookup x = some .local := by first | exact .inl rfl | exact .inr rfl) :
    ES X (.Assign [.Name x pos'] e pos) (tAsg te (gName i)) (dOwn da i) := ⟨ps_set hN hi hx he.p hs hf, ss_own he.s i⟩
theorem es_dput {j : Nat} {px ppos : Pos} {x : Str} (i : Nat) (hr : Room j X.A) (hx : EE X (.Name x px) (tVar i) (dVar i)) (hk : EE X k ty dk) (hv : EE X v tv dv) (hs : swapsWith v (some (.Subscript (.Name x px) k ppos)) pos.line X.env = pure false := by rfl) :
    ES X (.Assign [.Subscript (.Name x px) k ppos] v pos) (sDPut (tVar i) ty tv) (dDPut i dk dv) := ⟨ps_dput (hu_of hr) hx.p hk.p hv.p hs, ss_dput i hk.s hv.s⟩
theorem ess_frz (i : Nat) (h : ESs X sts t b) : ESs X sts t (dFrz i b) := ⟨h.p, ss_frz h.s⟩
theorem es_retO {x : Str} {px : Pos} (i : Nat) (hx : EE X (.Name x px) (tVar i) (dVar i)) : ES X (.Return (some (.Name x px)) pos) (tRet (tVar i)) (dRetO i) := ⟨ps_ret hx.p, ss_retO i⟩
theorem es_parO {i j : Nat} {x y : Str} {px py pt pt2 : Pos} {kt k2 : Nat} (hc : X.calm = true) (hN : X.N.Nodup) (hi : X.N[i]? = some x) (hj : X.N[j]? = some y) (hij : i ≠ j)
    (hx : X.env.scope.names.lookup x = some .local) (hy : X.env.scope.names.lookup y = some .local) (h1 : EF X e1 t1 da) (h2 : EE X e2 t2 db)
    (hw : swappedStores [.Tuple [.Name x px, .Name y py] kt pt] (.Tuple [e1, e2] k2 pt2) X.env = pure (some [x, y]) := by rfl)
    (hs : swapsWithSole [.Tuple [.Name x px, .Name y py] kt pt] (.Tuple [e1, e2] k2 pt2) pos.line X.env = pure false := by rfl) (hs1 : starEach [e1, e2] X.env = (false, eval e1 X.env) :: starEach [e2] X.env := by rfl) (hs2 : starEach [e2] X.env = (false, eval e2 X.env) :: starEach [] X.env := by rfl) :
    ES X (.Assign [.Tuple [.Name x px, .Name y py] kt pt] (.Tuple [e1, e2] k2 pt2) pos) (tPar i j (tCons t1 (tCons t2 tNil))) (dParO i j da db) := ⟨ps_par hc hN hi hj hij hx hy (pa_cons h1.p (pa_cons h2.p pa_nil hs2) hs1) hw hs, ss_parO i j h1.s h2.s⟩
theorem es_par3 {i j l : Nat} {x y z : Str} {a b c : Expr} {tx : TA} {ax : Da} {px py pz pt pos pt2 : Pos} {kt k2 : Nat} (hc : X.calm = true) (hN : X.N.Nodup) (hi : X.N[i]? = some x) (hj : X.N[j]? = some y) (hl : X.N[l]? = some z) (hij : i ≠ j) (hil : i ≠ l) (hjl : j ≠ l)
    (hx : X.env.scope.names.lookup x = some .local) (hy : X.env.scope.names.lookup y = some .local) (hz : X.env.scope.names.lookup z = some .local) (ha : EA X [a, b, c] tx ax)
    (hw : swappedStores [.Tuple [.Name x px, .Name y py, .Name z pz] kt pt] (.Tuple [a, b, c] k2 pt2) X.env = pure (some [x, y, z]) := by rfl)
    (hs : swapsWithSole [.Tuple [.Name x px, .Name y py, .Name z pz] kt pt] (.Tuple [a, b, c] k2 pt2) pos.line X.env = pure false := by rfl) :
    ES X (.Assign [.Tuple [.Name x px, .Name y py, .Name z pz] kt pt] (.Tuple [a, b, c] k2 pt2) pos) (tPar3 i j l tx) (dPar3 i j l ax) := ⟨ps_par3 hc hN hi hj hl hij hil hjl hx hy hz ha.p hw hs, ss_par3 i j l ha.s⟩
theorem ee_dget2 {j : Nat} {o e f : Expr} {apos cpos : Pos} {td ty tx : TE} {dd dy dx : Dn} (hr : Room j X.A) (ho : EE X o td dd) (he : EE X e ty dy) (hf : EE X f tx dx) (m : M2 X o "get" apos e f cpos := by exact ⟨rfl, by rfl, by decide, rfl⟩) :
    EE X (.Call (.Attribute o "get" apos) [e, f] [] cpos) (tDGet2 td ty tx) (dGet2 dd dy dx) := ⟨pe_dget2 (hu_of hr) ho.p he.p hf.p m, sn_dget2 ho.s he.s hf.s⟩
end
end Dl
end
section
set_option Elab.async false
set_option linter.all false
set_option maxRecDepth 100000
set_option maxHeartbeats 4000000
namespace Dl
open PySem PySem.Spec PyProof.Rows L2 StX
/-! sum of a tuple of ints -/
section
variable {prog : Program} {w : World} {A : Around} {E : Value → Shared → Prop} {s : Shared}
theorem sum_tup_items {t : Addr} {xs : Array (Int × Tok)} {Q : Value → Shared → Prop} (hh : A.handled = none) (ht : s.heap.IsTuple t (intItems xs))
    (h : ∀ h' tk t', (∀ b o, s.heap.get? b = some o → h'.get? b = some o) → Q (.int (preSum (numAt xs) xs.size) t') { s with heap := h', toks := tk }) : wpAny (model prog w) A (call (.builtin "sum") [.ref t]) Q E s := by
  have hlt : t < s.heap.objs.size := by obtain ⟨_, e, _⟩ := ht; exact Heap.lt_size e
  have hne : t ≠ s.heap.objs.size := Nat.ne_of_lt hlt
  refine call_sum_walkG (wpAny_pyIter_tuple ht ?_)
  refine ⟨_, _, _, _, _, _, numAt xs, rfl, Walks.tuple (A := A.in1) hh _ t hne (intItems xs), ⟨⟨_, Heap.get?_push_size _ rfl, rfl, rfl⟩, ?_⟩, fun b hb => ?_, (fun _ _ => intItems_at), fun h' tk t' hk => ?_⟩
  · obtain ⟨o, e, r⟩ := ht
    exact ⟨o, Heap.get?_push_of_some _ e, r⟩
  · show b < (s.heap.push _).objs.size
    rw [Heap.size_push]
    rcases List.mem_cons.mp hb with rfl | hb
    · exact Nat.lt_succ_self _
    · rw [List.mem_singleton.mp hb]
      exact Nat.lt_succ_of_lt hlt
  · have := h h' tk t' fun b o e => hk b o (fun hm => by
      rw [List.mem_singleton.mp hm] at e
      exact Nat.lt_irrefl _ (Heap.lt_size e)) (Heap.get?_push_of_some _ e)
    simpa [intItems] using this
theorem sum_tup_raw {t : Addr} {its : List Value} {ns : List Int} {Q : Value → Shared → Prop} (hh : A.handled = none) (ht : s.heap.IsTuple t its.toArray) (hi : IntsAre its ns)
    (h : ∀ h' tk t', (∀ b o, s.heap.get? b = some o → h'.get? b = some o) → Q (.int ns.sum t') { s with heap := h', toks := tk }) : wpAny (model prog w) A (call (.builtin "sum") [.ref t]) Q E s := by
  obtain ⟨xs, e⟩ := hi.allInts.items
  have hn : numsOf (intItems xs).toList = ns := by rw [← e]; exact hi.numsOf
  rw [nums_intItems] at hn
  rw [e] at ht
  refine sum_tup_items hh ht fun h' tk t' hk => ?_
  have := h h' tk t' hk
  rw [preSum_eq, List.take_of_length_le (by simp), hn]; exact this
end
def rSumA (K : Kx) : List V → Hp → VK → Prop := fun vs H Q => ∃ (a : Addr) (ns : List Int), vs = [V.ref a] ∧ (SqL K H a (ns.map V.int) ∨ SqT K H a (ns.map V.int)) ∧ Q (.int ns.sum) H
theorem cr_sumA {X : Cx} (hc : X.calm = true) : CallR X (.builtin "sum") (rSumA X.kx) := by
  intro pins s σ H vs us Q I r h
  obtain ⟨a, ns, rfl, hs | hs, q⟩ := h
  · exact cr_sum hc pins s σ H _ us Q I r ⟨a, ns, rfl, hs, q⟩
  · obtain ⟨its, rv, ht, _⟩ := I.tuple hs
    rw [Vals.ref1 r]
    exact sum_tup_raw (I.ok.hd hc) ht rv.ints fun h' tk t' hk => ⟨.int _, H, I.kept hk, ⟨_, rfl⟩, q⟩
def sumAD : List D → Option D
  | [d] => d.its.bind fun xs => (intsOf xs).map fun bs => .int bs.sum
  | _ => none
theorem sl_sumA {K : Kx} : SndL K (rSumA K) sumAD := fun c I H xs ds z s rx h Q q => by
  unfold sumAD at h
  split at h
  · rename_i d
    obtain ⟨ys, h1, h⟩ := bind_some_of h
    obtain ⟨bs, h2, rfl⟩ := map_some_of h
    cases rx with
    | cons a r =>
      cases r
      obtain ⟨p, vs, rfl, hp, rv⟩ := a.its h1
      have e := intsOf_rep rv h2
      subst e
      rcases hp with hp | hp
      · exact ⟨p, bs, rfl, .inr (s.sqT hp), q.val s (.int _)⟩
      · exact ⟨p, bs, rfl, .inl (s.sqL hp), q.val s (.int _)⟩
  · cases h
/-! a op b op c op d -/
def tChain3 (r r' r'' : R2) (ta tb tc td : TE) : TE := fun σ H Q => ta σ H fun x H1 => tb σ H1 fun y H2 => r x y H2 fun z H3 => ∃ k, z = .bl k ∧
  (if k = true then tc σ H3 fun w H4 => r' y w H4 fun z' H5 => ∃ k', z' = .bl k' ∧ (if k' = true then td σ H5 fun u H6 => r'' w u H6 Q else Q (.bl false) H5) else Q (.bl false) H3)
section
variable {X : Cx} {a b c d : Expr} {ta tb tc td : TE} {da db dc dd : Dn} {pos : Pos}
theorem pe_chain3 {op op' op'' : CmpOp} {r r' r'' : R2} (ho : OpR X (compareOp op) r) (ho' : OpR X (compareOp op') r') (ho'' : OpR X (compareOp op'') r'') (ha : PE X a ta) (hb : PE X b tb) (hc : PE X c tc) (hd : PE X d td)
    (hm : lastMarks [op, op', op''] [b, c, d] = false := by with_unfolding_all rfl) : PE X (.Compare a [op, op', op''] [b, c, d] pos) (tChain3 r r' r'' ta tb tc td) := by
  refine ⟨fun pins s σ H Q I h => ?_⟩
  refine Compare_chain (thn (ha.run pins s σ H _ I h) fun v s1 ⟨x, H1, I1, r1, q1⟩ => chain_link (thn (hb.run pins s1 σ H1 _ I1 q1) fun u s2 ⟨y, H2, I2, r2, q2⟩ =>
    thn (ho pins s2 σ H2 x y v u _ I2 r1 r2 q2) fun d s3 ⟨z, H3, I3, r3, k, e, q3⟩ => ?_)) hm
  subst e
  cases r3
  refine wpAny_truthy_bool ?_
  cases k with
  | false => exact ite_ff ⟨.bl false, H3, I3, rfl, q3⟩
  | true =>
    refine ite_tt (chain_link (thn (hc.run pins s3 σ H3 _ I3 q3) fun w' s4 ⟨z', H4, I4, r4, q4⟩ => thn (ho' pins s4 σ H4 y z' u w' _ I4 r2 r4 q4) fun d' s5 ⟨z2, H5, I5, r5, k2, e2, q5⟩ => ?_))
    subst e2
    cases r5
    refine wpAny_truthy_bool ?_
    cases k2 with
    | false => exact ite_ff ⟨.bl false, H5, I5, rfl, q5⟩
    | true => exact ite_tt (chain_last (thn (hd.run pins s5 σ H5 _ I5 q5) fun w2 s6 ⟨z3, H6, I6, r6, q6⟩ => ho'' pins s6 σ H6 z' z3 w' w2 Q I6 r4 r6 q6))
end
def dChain3 (f g h : D → D → Option D) (da db dc dd : Dn) : Dn := fun ρ s => (da ρ s).bind fun p => (db ρ p.2).bind fun q => (f p.1 q.1).bind fun z => match z with
  | .bl true => (dc ρ q.2).bind fun r => (g q.1 r.1).bind fun z => (match z with
    | .bl true => (dd ρ r.2).bind fun t => (h r.1 t.1).map fun z => (z, t.2)
    | .bl false => some (.bl false, r.2)
    | _ => none)
  | .bl false => some (.bl false, q.2)
  | _ => none
theorem sn_chain3 {K : Kx} {ta tb tc td : TE} {da db dc dd : Dn} {r r' r'' : R2} {f g f3 : D → D → Option D} (h1 : SndE K ta da) (h2 : SndE K tb db) (h3 : SndE K tc dc) (h4 : SndE K td dd) (hr : Snd2 K r f) (hr' : Snd2 K r' g) (hr'' : Snd2 K r'' f3) :
    SndE K (tChain3 r r' r'' ta tb tc td) (dChain3 f g f3 da db dc dd) := fun c I H σ ρ s d s' e h Q q => by
  obtain ⟨⟨x, s1⟩, ha, h⟩ := bind_some_of h
  obtain ⟨⟨y, s2⟩, hb, h⟩ := bind_some_of h
  obtain ⟨z, hz, h⟩ := bind_some_of h
  refine h1 _ _ _ _ _ _ _ _ e ha _ fun v I1 H1 g1 w1 r1 => ?_
  have e1 := e.grow g1 w1
  refine h2 _ _ _ _ _ _ _ _ e1 hb _ fun u I2 H2 g2 w2 r2 => ?_
  have g12 := g1.tr w1 g2
  have e2 := e.grow g12 w2
  refine hr _ _ _ _ _ _ _ _ g2.s2 (r1.mono g2.s1) r2 hz _ fun b I3 H3 g3 rb => ?_
  have w3 := w2.gr g3
  have g13 := g12.tr w2 (g3.up (c := c))
  have e3 := e.grow g13 w3
  split at h
  · cases rb
    refine ⟨true, rfl, ?_⟩
    rw [if_pos rfl]
    obtain ⟨⟨w, s3⟩, hc, h⟩ := bind_some_of h
    obtain ⟨z2, hz2, h⟩ := bind_some_of h
    refine h3 _ _ _ _ _ _ _ _ e3 hc _ fun t I4 H4 g4 w4 r4 => ?_
    have g14 := g13.tr w3 g4
    refine hr' _ _ _ _ _ _ _ _ g4.s2 ((r2.mono g3.s1).mono g4.s1) r4 hz2 _ fun b2 I5 H5 g5 rb2 => ?_
    have w5 := w4.gr g5
    have g15 := g14.tr w4 (g5.up (c := c))
    have e5 := e.grow g15 w5
    split at h
    · cases rb2
      refine ⟨true, rfl, ?_⟩
      rw [if_pos rfl]
      obtain ⟨⟨k, s4⟩, hd, h⟩ := bind_some_of h
      obtain ⟨z3, hz3, h⟩ := map_some_of h
      cases h
      refine h4 _ _ _ _ _ _ _ _ e5 hd _ fun t2 I6 H6 g6 w6 r6 => ?_
      have g16 := g15.tr w5 g6
      exact hr'' _ _ _ _ _ _ _ _ g6.s2 ((r4.mono g5.s1).mono g6.s1) r6 hz3 _ fun v' I' H' g' r' => q v' I' H' (g16.tr w6 (g'.up (c := c))) (w6.gr g') r'
    · cases rb2
      cases h
      refine ⟨false, rfl, ?_⟩
      rw [if_neg Bool.false_ne_true]
      exact q _ _ _ g15 w5 (.bl _)
    · cases h
  · cases rb
    cases h
    refine ⟨false, rfl, ?_⟩
    rw [if_neg Bool.false_ne_true]
    exact q _ _ _ g13 w3 (.bl _)
  · cases h
theorem ee_chain3 {X : Cx} {a b c d : Expr} {ta tb tc td : TE} {da db dc dd : Dn} {pos : Pos} {op op' op'' : CmpOp} {r r' r'' : R2} {f g f3 : D → D → Option D} (h : CM X op r f) (h' : CM X op' r' g) (h'' : CM X op'' r'' f3) (ha : EE X a ta da) (hb : EE X b tb db) (hc : EE X c tc dc) (hd : EE X d td dd) (hm : lastMarks [op, op', op''] [b, c, d] = false := by rfl) :
    EE X (.Compare a [op, op', op''] [b, c, d] pos) (tChain3 r r' r'' ta tb tc td) (dChain3 f g f3 da db dc dd) := ⟨pe_chain3 h.o h'.o h''.o ha.p hb.p hc.p hd.p hm, sn_chain3 ha.s hb.s hc.s hd.s h.s h'.s h''.s⟩
end Dl
end
section
set_option Elab.async false
set_option linter.all false
set_option maxRecDepth 100000
set_option maxHeartbeats 4000000
namespace Dl
open PySem PySem.Spec PyProof.Rows L2 StX
/-! a written dict of the module: text keys, tuples of texts -/
def KTab (K : PySem.W.Frag) (w : World) (p : Addr) (l : List (Str × List Str)) : Prop := ∀ z vs, l.lookup z = some vs → ∃ a, KDct K w p z (.ref a) ∧ ∀ H, SqT K H a (vs.map V.str)
def kgetD (l : List (Str × List Str)) : D → Option D
  | .str z => (l.lookup z).map fun vs => .ktp (vs.map D.str)
  | _ => none
theorem sn_kget {K : Kx} {w : World} {p : Addr} {l : List (Str × List Str)} {tb : TE} {db : Dn} (hk : KTab K w p l) (h1 : SndE K tb db) : SndE K (tOp (rIxD K w) (tC (.ref p)) tb) (dUn (kgetD l) db) := fun c I H σ ρ s d s' e h Q q => by
  obtain ⟨⟨x, s1⟩, h2, h⟩ := bind_some_of h
  obtain ⟨z, h3, h⟩ := map_some_of h
  cases h
  have h3 : kgetD l x = some _ := h3
  unfold kgetD at h3
  split at h3
  · obtain ⟨vs, h4, rfl⟩ := map_some_of h3
    refine h1 _ _ _ _ _ _ _ _ e h2 _ fun v I1 H1 g1 w1 r1 => ?_
    cases r1 with
    | str =>
      obtain ⟨a, ha, hs⟩ := hk _ _ h4
      exact ⟨p, _, _, rfl, rfl, ha, q _ _ _ g1 w1 (.ktp (hs _) (RepL.strs _))⟩
  · cases h3
section
variable {X : Cx} {b : Expr} {tb : TE} {db : Dn} {pos px : Pos}
theorem ee_kget {x : Str} {p : Addr} {l : List (Str × List Str)} (hg : Gl X x) (hm : X.mg x = some (.ref p)) (hk : KTab X.K X.w p l) (hb : EE X b tb db) (hs : PlainIx b := by exact fun _ _ => rfl) (hd : (x == ("__debug__" : Str)) = false := by decide) :
    EE X (.Subscript (.Name x px) b pos) (tOp (rIxD X.kx X.w) (tC (.ref p)) tb) (dUn (kgetD l) db) := ⟨pe_ix ix_kdict (pe_glob hg hm rfl hd) hb.p hs, sn_kget hk hb.s⟩
end
/-! sorted(a list of ints) -/
def insI (x : Int) : List Int → List Int
  | [] => [x]
  | y :: ys => if x ≤ y then x :: y :: ys else y :: insI x ys
def srtI : List Int → List Int
  | [] => []
  | x :: xs => insI x (srtI xs)
theorem insI_perm (x : Int) : ∀ ys : List Int, (insI x ys).Perm (x :: ys)
  | [] => .refl _
  | y :: ys => by
    unfold insI
    split
    · exact .refl _
    · exact ((insI_perm x ys).cons y).trans (.swap x y ys)
theorem srtI_perm : ∀ xs : List Int, (srtI xs).Perm xs
  | [] => .refl _
  | x :: xs => (insI_perm x _).trans ((srtI_perm xs).cons x)
theorem insI_sorted (x : Int) : ∀ ys : List Int, ys.Pairwise (· ≤ ·) → (insI x ys).Pairwise (· ≤ ·)
  | [], _ => by simp [insI]
  | y :: ys, h => by
    have h1 := List.pairwise_cons.mp h
    unfold insI
    split
    · rename_i hx
      refine List.pairwise_cons.mpr ⟨fun z hz => ?_, h⟩
      rcases List.mem_cons.mp hz with rfl | hz
      · exact hx
      · exact Int.le_trans hx (h1.1 z hz)
    · rename_i hx
      refine List.pairwise_cons.mpr ⟨fun z hz => ?_, insI_sorted x ys h1.2⟩
      rcases List.mem_cons.mp ((insI_perm x ys).mem_iff.mp hz) with rfl | hz
      · omega
      · exact h1.1 z hz
theorem srtI_sorted : ∀ xs : List Int, (srtI xs).Pairwise (· ≤ ·)
  | [] => .nil
  | x :: xs => insI_sorted x _ (srtI_sorted xs)
theorem srt_uniq : ∀ {xs ys : List Int}, xs.Perm ys → xs.Pairwise (· ≤ ·) → ys.Pairwise (· ≤ ·) → xs = ys
  | [], ys, h, _, _ => (List.nil_perm.mp h).symm
  | x :: xs, [], h, _, _ => absurd (List.perm_nil.mp h) (by simp)
  | x :: xs, y :: ys, h, h1, h2 => by
    have a1 := List.pairwise_cons.mp h1
    have a2 := List.pairwise_cons.mp h2
    have e : x = y := by
      have m1 : x ∈ y :: ys := h.mem_iff.mp List.mem_cons_self
      have m2 : y ∈ x :: xs := h.mem_iff.mpr List.mem_cons_self
      rcases List.mem_cons.mp m1 with m1 | m1
      · exact m1
      · rcases List.mem_cons.mp m2 with m2 | m2
        · exact m2.symm
        · have b1 := a1.1 y m2
          have b2 := a2.1 x m1
          omega
    subst e
    rw [srt_uniq (List.Perm.cons_inv h) a1.2 a2.2]
def sortedD : List D → Option D
  | [.lst xs] => (intsOf xs).map fun ns => .lst ((srtI ns).map D.int)
  | _ => none
theorem RepL.intsR {K : Kx} {c : Option Addr} {I : Hp} : ∀ ns : List Int, RepL K c I (ns.map V.int) (ns.map D.int)
  | [] => .nil
  | n :: ns => .cons (.int n) (RepL.intsR ns)
theorem sl_sorted {K : Kx} : SndL K (rSortedI K) sortedD := fun c I H xs ds z s rx h Q q => by
  unfold sortedD at h
  split at h
  · obtain ⟨ns, h1, rfl⟩ := map_some_of h
    cases rx with
    | cons a r =>
      cases r
      cases a with
      | @lst p vs _ hI rv =>
        have e := intsOf_rep rv h1
        subst e
        refine ⟨p, ns, rfl, .of (s.lst hI), fun ns' b hp hs hb => ?_⟩
        have e2 : ns' = srtI ns := srt_uniq (hp.trans (srtI_perm ns).symm) hs (srtI_sorted ns)
        subst e2
        exact q.lst s hb (.intsR _)
  · cases h
/-! d.get(k) of a text dict -/
def dget1D : D → D → Option D
  | .dS es, .str k => some ((lookD es k).getD .non)
  | _, _ => none
theorem sn_dget1 {K : Kx} {td ty : TE} {dd dy : Dn} (h0 : SndE K td dd) (h1 : SndE K ty dy) : SndE K (tDGet1 td ty) (dOp dget1D dd dy) := fun c I H σ ρ s d s' e h Q q => by
  obtain ⟨⟨x, s1⟩, ha, h⟩ := bind_some_of h
  obtain ⟨⟨y, s2⟩, hb, h⟩ := bind_some_of h
  obtain ⟨z, h4, h⟩ := map_some_of h
  cases h
  unfold dget1D at h4
  split at h4
  · rename_i es k hx hy
    have hx : x = .dS es := hx
    have hy : y = .str k := hy
    subst hx hy
    refine h0 _ _ _ _ _ _ _ _ e ha _ fun v I1 H1 g1 w1 r1 => ?_
    cases r1 with
    | dS hI rs =>
      refine ⟨_, rfl, .inl ⟨_, g1.s2.dK hI⟩, ?_⟩
      refine h1 _ _ _ _ _ _ _ _ (e.grow g1 w1) hb _ fun u I2 H2 g2 w2 r2 => ?_
      have g12 := g1.tr w1 g2
      cases r2
      have rs2 := rs.mono g2.s1
      refine ⟨_, .inl ⟨_, Sum.inr k, g2.s2.dK (g2.s1 _ _ hI), rfl, rfl⟩, ?_⟩
      cases h4
      cases hl : lookD es k with
      | some d1 =>
        obtain ⟨v1, h5, h6⟩ := rs2.look hl
        rw [h5]
        exact q _ I2 H2 g12 w2 (by rw [hl]; exact h6)
      | none =>
        rw [rs2.none hl]
        exact q _ I2 H2 g12 w2 (by rw [hl]; exact .non)
  · cases h4
theorem ee_dget1 {X : Cx} {j : Nat} {o e : Expr} {apos cpos : Pos} {td ty : TE} {dd dy : Dn} (hr : Room j X.A) (ho : EE X o td dd) (he : EE X e ty dy) (m : M1 X o "get" apos e cpos := by exact ⟨rfl, by rfl, by decide, rfl⟩) :
    EE X (.Call (.Attribute o "get" apos) [e] [] cpos) (tDGet1 td ty) (dOp dget1D dd dy) := ⟨pe_dget1 (hu_of hr) ho.p he.p m, sn_dget1 ho.s he.s⟩
end Dl
end
section
set_option Elab.async false
set_option linter.all false
set_option maxRecDepth 100000
set_option maxHeartbeats 4000000
namespace Dl
open PySem PySem.Spec PyProof.Rows L2
/-! what the head tells of nested constants -/
def tupAt (K : PySem.W.Frag) (a : Addr) (vs : List V) : Bool := match K.lookup a with
  | some ⟨.type c, _, .seq its _, _⟩ => decide (c = "tuple") && (decide (its.size ≤ sizeLine) && He.relAll vs its.toList)
  | _ => false
theorem tupAt_ok {K : PySem.W.Frag} {a : Addr} {vs : List V} (h : tupAt K a vs = true) (H : Hp) : SqT K H a vs := by
  unfold tupAt at h
  cases q : K.lookup a with
  | none => rw [q] at h; cases h
  | some o =>
    obtain ⟨oc, od, dt, osl⟩ := o
    rw [q] at h
    cases oc with
    | type c =>
      cases dt with
      | seq its n =>
        obtain ⟨h1, h2⟩ := He.ba (show (decide (c = "tuple") && (decide (its.size ≤ sizeLine) && He.relAll vs its.toList)) = true from h)
        obtain ⟨h3, h4⟩ := He.ba h2
        exact .inr ⟨_, its, n, q, congrArg Value.type (of_decide_eq_true h1), rfl, of_decide_eq_true h3, He.relAll_ok h4⟩
      | _ => cases h
    | _ => cases dt <;> cases h
def keyAt (K : PySem.W.Frag) (p : Addr) (z : Str) : Addr := match PySem.W.nsIn K p z with
  | some (some (.ref b)) => b
  | _ => 0
def ktabB (K : PySem.W.Frag) (p : Addr) (l : List (Str × List Str)) : Bool := l.all fun q => He.eqO (PySem.W.nsIn K p q.1) (some (some (.ref (keyAt K p q.1)))) && tupAt K (keyAt K p q.1) (q.2.map V.str)
theorem look_in {z : Str} {vs : List Str} : ∀ {l : List (Str × List Str)}, l.lookup z = some vs → (z, vs) ∈ l
  | [], h => by cases h
  | (k, u) :: r, h => by
    have h2 : (match z == k with | true => some u | false => r.lookup z) = some vs := h
    cases q : z == k with
    | true =>
      rw [q] at h2
      have e := eq_of_beq q
      cases h2
      rw [e]; exact List.mem_cons_self
    | false =>
      rw [q] at h2
      exact List.mem_cons_of_mem _ (look_in h2)
theorem ktab_ok {K : PySem.W.Frag} {w : World} {p : Addr} {l : List (Str × List Str)} (h : ktabB K p l = true) (kd : ∃ es n, L2.KDict K w p es n) : KTab K w p l := fun z vs hz => by
  obtain ⟨es, n, ⟨h1, h2, _⟩⟩ := kd
  obtain ⟨h3, h4⟩ := He.ba (List.all_eq_true.mp h _ (look_in hz))
  exact ⟨_, ⟨es, n, _, h1, h2, He.eqO_ok h3, rfl⟩, fun H => tupAt_ok h4 H⟩
def refAt (K : PySem.W.Frag) (a : Addr) (i : Nat) : Addr := match K.lookup a with
  | some ⟨_, _, .seq its _, _⟩ => (match its[i]? with
    | some (.ref b) => b
    | _ => 0)
  | _ => 0
def tabB (K : PySem.W.Frag) (a : Addr) (l : List (List Str)) : Bool := tupAt K a ((List.range l.length).map fun i => V.ref (refAt K a i)) && (List.range l.length).all fun i => tupAt K (refAt K a i) ((l.getD i []).map V.str)
theorem tab_ok {K : PySem.W.Frag} {a : Addr} {l : List (List Str)} (h : tabB K a l = true) (P : Program) (w : World) (c : Option Addr) (I : Hp) : Rep ⟨K, P, w⟩ c I (.ref a) (.ktp (l.map fun y => .ktp (y.map D.str))) := by
  obtain ⟨h1, h2⟩ := He.ba h
  refine .ktp (tupAt_ok h1 I) ?_
  have key : ∀ (m : List (List Str)) (k : Nat), (∀ i, i < m.length → tupAt K (refAt K a (k + i)) ((m.getD i []).map V.str) = true) → RepL ⟨K, P, w⟩ c I ((List.range m.length).map fun i => V.ref (refAt K a (k + i))) (m.map fun y => .ktp (y.map D.str)) := fun m => by
    induction m with
    | nil => exact fun _ _ => .nil
    | cons y m ih =>
      intro k hk
      have e : (List.range (y :: m).length).map (fun i => V.ref (refAt K a (k + i))) = V.ref (refAt K a k) :: (List.range m.length).map fun i => V.ref (refAt K a (k + 1 + i)) := by
        rw [List.length_cons, List.range_succ_eq_map, List.map_cons, List.map_map]
        refine congrArg (V.ref (refAt K a k) :: ·) (List.map_congr_left fun i _ => ?_)
        show V.ref (refAt K a (k + (i + 1))) = _
        rw [show k + (i + 1) = k + 1 + i by omega]
      rw [e]
      exact .cons (.ktp (tupAt_ok (hk 0 (by simp)) I) (RepL.strs _)) (ih (k + 1) fun i hi => by
        have := hk (i + 1) (by rw [List.length_cons]; omega)
        rw [show k + (i + 1) = k + 1 + i by omega] at this
        exact this)
  have := key l 0 fun i hi => by
    rw [Nat.zero_add]
    exact List.all_eq_true.mp h2 i (List.mem_range.mpr hi)
  simpa only [Nat.zero_add] using this
end Dl
end
section
set_option Elab.async false
set_option linter.all false
set_option maxRecDepth 100000
set_option maxHeartbeats 4000000
namespace Dl
open PySem PySem.Spec PyProof.Rows L2 StX
theorem set_same {α : Type} {σ : List α} {i : Nat} {x : α} (h : σ[i]? = some x) : σ.set i x = σ := by
  apply List.ext_getElem?
  intro j
  by_cases z : i = j
  · subst z
    rw [List.getElem?_set]
    have hl := (List.getElem?_eq_some_iff.mp h).1
    simp only [if_true, hl, h]
  · rw [List.getElem?_set_ne z]
/-- an owned text dict gets a value -/
theorem EnvS.put {K : Kx} {c : Option Addr} {I0 H0 I H : Hp} {σ : L2.St} {ρ : List Sl} {s : Tau} {i : Nat} {p : Addr} {es : List (Str × D)} {kvs : List (Key × V)} {k : Str} {v : V} {d : D} (e : EnvS K c I0 H0 I H σ ρ s) (hs : ρ[i]? = some (.ow (.dS es))) (hp : σ[i]? = some (some (.ref p)))
    (hk : H p = some (.dK kvs)) (rv : Rep K c I v d) : EnvS K c I0 H0 I (upd H p (.dK (putK kvs (.inr k) v))) σ (ρ.set i (.ow (.dS (putD es k d)))) s := by
  obtain ⟨p2, hp2, o2⟩ := e.env.ow hs
  rw [hp] at hp2
  cases hp2
  cases o2 with
  | @dS kv2 _ h1 h2 h3 h4 =>
    rw [hk] at h1
    cases h1
    have rr := h2.putL (k := k) rv
    have h0 := e.fr i p _ hp hs
    have eq := set_same hp
    have sl2 : ∀ {σ' : L2.St} {ρ' : List Sl}, (∀ (j : Nat) (d : D), σ'[j]? = some (some (V.ref p)) → ρ'[j]? = some (.ow d) → False) → SlL K c I H σ' ρ' → SlL K c I (upd H p (.dK (putK kvs (.inr k) v))) σ' ρ' := fun {σ' ρ'} n sl => by
      induction sl with
      | nil => exact .nil
      | @cons v x σ2 ρ2 a r ih =>
        refine .cons ?_ (ih fun j d z1 z2 => n (j + 1) d (by simpa using z1) (by simpa using z2))
        cases a with
        | un => exact .un _
        | im a => exact .im a
        | @ow p2 d2 o2 =>
          have np : p2 ≠ p := fun z => n 0 d2 (by rw [z]; rfl) rfl
          refine .ow ?_
          cases o2 with
          | lst h1 h2 h3 h4 => exact .lst (by rw [upd_ne np]; exact h1) h2 h3 h4
          | dS h1 h2 h3 h4 => exact .dS (by rw [upd_ne np]; exact h1) h2 h3 h4
    have slot := SlL.set (v := some (V.ref p)) (x := .un) (.un _) i e.env.sl
    rw [eq] at slot
    have s2' := sl2 (σ' := σ) (ρ' := ρ.set i .un) (fun j d' z1 z2 => by
      by_cases z : i = j
      · subst z
        rw [List.getElem?_set] at z2
        simp only [if_true] at z2
        split at z2 <;> cases z2
      · rw [List.getElem?_set_ne z] at z2
        exact e.env.uq i j p _ d' z hp z1 hs z2) slot
    have s3 := SlL.set (v := some (V.ref p)) (x := .ow (.dS (putD es k d))) (.ow (.dS upd_same rr h3 h4)) i s2'
    rw [eq, List.set_set] at s3
    refine ⟨⟨fun a u z => ?_, fun rr hr => ?_, s3, ?_⟩, e.s0, fun a u n z => ?_, e.nw, fun j q' d' h1' h2' => ?_, e.nc⟩
    · rw [upd_ne (ne_of_none z h3)]; exact e.env.sub a u z
    · obtain ⟨z1, sc, z2, z3⟩ := e.env.w rr hr
      have n : rr ≠ p := fun z => h4 (by rw [hr, z])
      exact ⟨z1, sc, by rw [upd_ne n]; exact z2, z3⟩
    · have u := Uq.setO (i := i) (p := p) (d := .dS (putD es k d)) e.env (fun j d' nj z1 z2 => e.env.uq i j p _ d' (Ne.symm nj) hp z1 hs z2)
      rw [eq] at u
      exact u
    · have n2 : a ≠ p := fun z2 => by rw [z2, h0] at z; cases z
      rw [upd_ne n2]; exact e.kp a u n z
    · by_cases z : i = j
      · subst z
        rw [hp] at h1'; cases h1'
        exact h0
      · rw [List.getElem?_set_ne z] at h2'
        exact e.fr j q' d' h1' h2'
/-- d[k], d[l] = x, y -/
def dDPut2 (i : Nat) (k1 k2 : Str) (da : Dn) : Ds := fun ρ s => (da ρ s).bind fun v => v.1.asT.bind fun xs => match xs, ρ[i]? with
  | [x, y], some (.ow (.dS es)) => if es.length + 1 < 1000000 then some (.nx (ρ.set i (.ow (.dS (putD (putD es k1 x) k2 y)))), v.2) else none
  | _, _ => none
theorem putD_len (es : List (Str × D)) (k : Str) (v : D) : (putD es k v).length ≤ es.length + 1 := by
  unfold putD
  split
  · rw [List.length_map]; omega
  · rw [List.length_append]; exact Nat.le_refl _
theorem ss_dput2 {K : Kx} {te : TE} {da : Dn} (i : Nat) (k1 k2 : Str) (h1 : SndE K te da) :
    SndS K (tAsg te (gTup K 2 (gCons (gSub (tVar i) (tC (.str k1)) rSetD) (gCons (gSub (tVar i) (tC (.str k2)) rSetD) gNil)))) (dDPut2 i k1 k2 da) := fun c I0 H0 I H σ ρ s o s' e h En q => by
  obtain ⟨⟨v, s1⟩, ha, h⟩ := bind_some_of h
  obtain ⟨xs, hx, h⟩ := bind_some_of h
  split at h
  · rename_i x y es hs
    split at h
    · rename_i hl
      cases h
      refine h1 _ _ _ _ _ _ _ _ e.env ha _ fun u I1 H1 g1 w1 r1 => ?_
      have e1 := e.grow g1 w1
      obtain ⟨a, vs, rfl, hq, rv⟩ := r1.asT hx
      cases rv with
      | @cons v1 _ vs1 _ rx rv => cases rv with
        | @cons v2 _ vs2 _ ry rv =>
          cases rv
          obtain ⟨p, hp, o1⟩ := e1.env.ow hs
          cases o1 with
          | @dS kvs _ z1 z2 z3 z4 =>
            have e2 := e1.put (k := k1) hs hp z1 rx
            have hil : i < ρ.length := (List.getElem?_eq_some_iff.mp hs).1
            have hs2 : (ρ.set i (.ow (.dS (putD es k1 x))))[i]? = some (.ow (.dS (putD es k1 x))) := by
              rw [List.getElem?_set]
              simp only [if_true, hil]
            have e3 := e2.put (k := k2) hs2 hp upd_same ry
            rw [List.set_set] at e3
            have l1 : kvs.length < sizeLine := by
              rw [z2.length]
              exact Nat.lt_of_lt_of_le (show es.length < 1000000 by omega) (by decide)
            have l2 : (putK kvs (.inr k1) v1).length < sizeLine := by
              rw [(z2.putL (k := k1) rx).length]
              have := putD_len es k1 x
              exact Nat.lt_of_lt_of_le (show (putD es k1 x).length < 1000000 by omega) (by decide)
            refine ⟨a, _, rfl, g1.s2.sqT hq, rfl, _, _, rfl, .ref p, hp, p, _, rfl, .inl ⟨kvs, .inr k1, z1, rfl, l1, rfl⟩, _, _, rfl, .ref p, hp, p, _, rfl, .inl ⟨_, .inr k2, upd_same, rfl, l2, rfl⟩, rfl, q _ _ _ e3⟩
    · cases h
  · cases h
theorem es_dput2 {X : Cx} {j : Nat} {x : Str} {px1 px2 p1 p2 q1 q2 pt pos : Pos} {k1 k2 : Str} {n1 n2 : Nat} {kt : Nat} {e : Expr} {te : TE} {da : Dn} (i : Nat) (hr : Room j X.A) (hc : X.calm = true) (hx1 : EE X (.Name x px1) (tVar i) (dVar i)) (hx2 : EE X (.Name x px2) (tVar i) (dVar i)) (he : EE X e te da)
    (hs : swapsWithSole [.Tuple [.Subscript (.Name x px1) (.Constant (.str k1) n1 p1) q1, .Subscript (.Name x px2) (.Constant (.str k2) n2 p2) q2] kt pt] e pos.line X.env = pure false := by rfl)
    (hw : swappedStores [.Tuple [.Subscript (.Name x px1) (.Constant (.str k1) n1 p1) q1, .Subscript (.Name x px2) (.Constant (.str k2) n2 p2) q2] kt pt] e X.env = pure none := by rfl) :
    ES X (.Assign [.Tuple [.Subscript (.Name x px1) (.Constant (.str k1) n1 p1) q1, .Subscript (.Name x px2) (.Constant (.str k2) n2 p2) q2] kt pt] e pos)
      (tAsg te (gTup X.kx 2 (gCons (gSub (tVar i) (tC (.str k1)) rSetD) (gCons (gSub (tVar i) (tC (.str k2)) rSetD) gNil)))) (dDPut2 i k1 k2 da) :=
  ⟨ps_asg he.p (pg_tup hc (pgs_cons (pg_sub hx1.p pe_str (set_dict (hu_of hr))) (pgs_cons (pg_sub hx2.p pe_str (set_dict (hu_of hr))) pgs_nil (by rfl)) (by rfl))) hs hw (by rfl), ss_dput2 i k1 k2 he.s⟩
end Dl
end
section
set_option Elab.async false
set_option linter.all false
set_option maxRecDepth 100000
set_option maxHeartbeats 4000000
namespace Dl
open PySem PySem.Spec PyProof.Rows L2 StX
/-! an owned text dict, read -/
def dgetOD (i : Nat) (dk : Dn) : Dn := fun ρ s => (dk ρ s).bind fun k => match k.1, ρ[i]? with
  | .str x, some (.ow (.dS es)) => (lookD es x).map fun z => (z, k.2)
  | _, _ => none
theorem sn_dgetO {K : Kx} {ty : TE} {dk : Dn} (i : Nat) (h1 : SndE K ty dk) : SndE K (tDGet (tVar i) ty) (dgetOD i dk) := fun c I H σ ρ s d s' e h Q q => by
  obtain ⟨⟨y, s1⟩, ha, h⟩ := bind_some_of h
  split at h
  · rename_i x es hx hs
    have hx : y = .str x := hx
    subst hx
    obtain ⟨z, hz, h⟩ := map_some_of h
    cases h
    obtain ⟨p, hp, o⟩ := e.ow hs
    refine ⟨.ref p, hp, ?_⟩
    refine h1 _ _ _ _ _ _ _ _ e ha _ fun u I1 H1 g1 w1 r1 => ?_
    cases r1 with
    | str =>
      have o1 := o.grow g1
      cases o1 with
      | @dS kvs _ z1 z2 z3 z4 =>
        obtain ⟨v, h2, h3⟩ := z2.look hz
        exact ⟨p, v, rfl, .inl ⟨kvs, .inr x, .inl z1, rfl, h2.symm⟩, q _ I1 H1 g1 w1 h3⟩
  · cases h
theorem ee_dgetO {X : Cx} {j : Nat} {x : Str} {px pos : Pos} {k : Expr} {ty : TE} {dk : Dn} (i : Nat) (hr : Room j X.A) (hx : EE X (.Name x px) (tVar i) (dVar i)) (hk : EE X k ty dk) (hs : NoSl k := by exact fun _ _ => rfl) :
    EE X (.Subscript (.Name x px) k pos) (tDGet (tVar i) ty) (dgetOD i dk) := ⟨pe_dget (hu_of hr) hx.p hk.p hs, sn_dgetO i hk.s⟩
/-! a call that gives a new thing -/
def dCallO (f : Fn) (ax : Da) : Dn := fun ρ s => (ax ρ s).bind fun p => (f p.1 p.2).bind fun r => if r.1.2 = true then some (r.1.1, r.2) else none
theorem sf_call {K : Kx} {n : Nat} {f : Fn} {tx : TA} {ax : Da} (hx : SndA K tx ax) (hl : ∀ ρ s ds s', ax ρ s = some (ds, s') → ds.length = n) : SndF K (tCall (spG K n f) [] E0 tx) (dCallO f ax) := fun c I H σ ρ s d s' e h Q q => by
  obtain ⟨⟨ds, s1⟩, h1, h⟩ := bind_some_of h
  obtain ⟨⟨⟨d1, o⟩, s2⟩, h2, h⟩ := bind_some_of h
  split at h
  · rename_i ho
    have ho : o = true := ho
    subst ho
    cases h
    refine hx _ _ _ _ _ _ _ _ e h1 _ fun vs I1 H1 g1 w1 r1 => ?_
    show spG K n f (vs ++ []) H1 Q E0
    rw [List.append_nil]
    refine ⟨r1.length.trans (hl _ _ _ _ h1), c, I1, ds, s1, d1, true, s2, r1, g1.s2, w1, h2, fun v I' H' g w r => ?_⟩
    obtain ⟨p, rfl, hp, hn⟩ := r
    have h0 : H p = none := by
      cases qq : H p with
      | none => rfl
      | some u => rw [g1.kp p u (w1.ne hn) qq] at hn; cases hn
    exact q p I' H' (g1.tr w1 g) w hp h0
  · cases h
section
variable {X : Cx} {k : Nat} {fn : Fn} {x : Str} {e : Expr} {es : List Expr} {tx : TA} {ax : Da} {p pos : Pos} {n : Nat}
theorem ef_call {j : Nat} (F : Cd X.prog X.w X.kx X.mg X.base k x n fn) (hr : Room j X.A) (hk : k ≤ j) (hg : Gl X x) (ha : EA X (e :: es) tx ax) (hl : ∀ ρ s ds s', ax ρ s = some (ds, s') → ds.length = n) (hdb : (x == ("__debug__" : Str)) = false := by decide)
    (he : starEach (e :: es) X.env = (false, eval e X.env) :: starEach es X.env := by rfl) (hpl : (backTo pos (starEach es X.env)).any (fun z => z.1) = false := by rfl) : EF X (.Call (.Name x p) (e :: es) [] pos) (tCall (spG X.kx n fn) [] E0 tx) (dCallO fn ax) := by
  obtain ⟨f, fd, ps, hn, G, gm, kp, b⟩ := F.h
  exact ⟨pe_call G (hr.mono hk) hg gm kp b .nil pass0 ha.p hdb he hpl, sf_call ha.s hl⟩
end
/-! list(range(..)) -/
theorem RepL.rg (K : Kx) (c : Option Addr) (I : Hp) (a b : Int) : RepL K c I (rgV a b) (rngL a (b - a).toNat) := by
  unfold rgV rngL
  induction (List.range (b - a).toNat) with
  | nil => exact .nil
  | cons x xs ih => exact .cons (.int _) ih
def dLstRg1 (da : Dn) : Dn := fun ρ s => (da ρ s).bind fun p => match p.1 with
  | .int j => if decide (0 ≤ j ∧ j ≤ 1000000) = true then some (.lst (rngL 0 j.toNat), p.2) else none
  | _ => none
theorem sn_lstRg1 {K : Kx} {te : TE} {da : Dn} (h1 : SndE K te da) : SndE K (tLstRg (tRg1 te)) (dLstRg1 da) := fun c I H σ ρ s d s' e h Q q => by
  obtain ⟨⟨x, s1⟩, ha, h⟩ := bind_some_of h
  split at h
  · rename_i j hj
    have hj : x = .int j := hj
    subst hj
    split at h
    · rename_i hc
      have hc := of_decide_eq_true hc
      cases h
      refine h1 _ _ _ _ _ _ _ _ e ha _ fun v I1 H1 g1 w1 r1 => ?_
      cases r1
      refine ⟨j, rfl, .of_le (by omega) (by omega) (by omega) (by omega), fun p hp => ?_⟩
      have g := Gr.new (o := .lst (rgV 0 j)) g1.s2 hp
      have rr := RepL.rg K c (upd I1 p (.lst (rgV 0 j))) 0 j
      rw [Int.sub_zero] at rr
      exact q _ _ _ (g1.tr w1 g.up) (w1.gr g) (.lst upd_same rr)
    · cases h
  · cases h
section
variable {X : Cx} {a : Expr} {ta : TE} {da : Dn} {p p2 pos q : Pos}
theorem ee_lstRg1 (hg : Gl X "list") (hm : X.mg "list" = none) (hg2 : Gl X "range") (hm2 : X.mg "range" = none) (ha : EE X a ta da) (hc : X.calm = true) (na : starEach [a] X.env = (false, eval a X.env) :: starEach [] X.env := by rfl)
    (nb : starEach [.Call (.Name "range" p2) [a] [] q] X.env = (false, eval (.Call (.Name "range" p2) [a] [] q) X.env) :: starEach [] X.env := by rfl) :
    EE X (.Call (.Name "list" p) [.Call (.Name "range" p2) [a] [] q] [] pos) (tLstRg (tRg1 ta)) (dLstRg1 da) := ⟨pe_listRg hc hg hm (prg_1 hg2 hm2 ha.p na) nb, sn_lstRg1 ha.s⟩
end
/-! text * int -/
def rMulS : R2 := fun x y H Q => ∃ z n, x = .str z ∧ y = .int n ∧ MulOk z n ∧ Q (.str (Txt.mul z n)) H
theorem op_mulS {X : Cx} : OpR X (binaryOp .Mult) rMulS := by
  intro pins s σ H x y v u Q I rx ry h
  obtain ⟨z, n, rfl, rfl, ok, q⟩ := h
  obtain ⟨t, rfl⟩ := rx
  obtain ⟨t', rfl⟩ := ry
  exact PySem.SB.mul ok fun t' k => ⟨.str _, H, I.tok _, ⟨_, rfl⟩, q⟩
def mulSD : D → D → Option D
  | .str z, .int n => if decide (0 ≤ n ∧ n ≤ 1000 ∧ z.length ≤ 1000) = true then some (.str (Txt.mul z n)) else none
  | _, _ => none
theorem mulOk_small {z : Str} {n : Int} (h0 : 0 ≤ n) (h1 : n ≤ 1000) (h2 : z.length ≤ 1000) : MulOk z n := by
  refine ⟨?_, fun h3 _ => ?_, fun _ _ => ?_⟩
  · rw [decide_eq_false (by omega), decide_eq_false (by omega)]; rfl
  · have : (2 ^ 63 - 1 : Int) / n ≥ 1000 := by
      have h4 : 0 < n := by omega
      exact (Int.le_ediv_iff_mul_le h4).mpr (by omega)
    omega
  · show decide (z.length * n.toNat > sizeLine) = false
    refine decide_eq_false fun h => ?_
    have h5 : z.length * n.toNat ≤ 1000 * 1000 := Nat.mul_le_mul h2 (by omega)
    have h6 := sizeLine_eq
    omega
theorem s2_mulS {K : Kx} : Snd2 K rMulS mulSD := fun c I H x y d e z s rx ry h Q q => by
  unfold mulSD at h
  split at h
  · split at h
    · rename_i hc
      have hc := of_decide_eq_true hc
      cases h; cases rx; cases ry
      exact ⟨_, _, rfl, rfl, mulOk_small hc.1 hc.2.1 hc.2.2, q.val s (.str _)⟩
    · cases h
  · cases h
theorem ee_mulS {X : Cx} {a b : Expr} {ta tb : TE} {da db : Dn} {pos : Pos} (ha : EE X a ta da) (hb : EE X b tb db) : EE X (.BinOp a .Mult b pos) (tOp rMulS ta tb) (dOp mulSD da db) := ⟨pe_op op_mulS ha.p hb.p, sn_op ha.s hb.s s2_mulS⟩
end Dl
end
section
set_option Elab.async false
set_option linter.all false
set_option maxRecDepth 100000
set_option maxHeartbeats 4000000
namespace Dl
open PySem PySem.Spec PyProof.Rows L2 StX
/-! a set of texts, however many -/
/-- how many texts are met -/
def cntM : List Str → Nat
  | [] => 0
  | x :: r => cntM r + (if r.contains x then 0 else 1)
/-- how many, from the left -/
def cntL (xs : List Str) : Nat := cntM xs.reverse
theorem cntL_app (xs : List Str) (x : Str) : cntL (xs ++ [x]) = cntL xs + (if xs.contains x then 0 else 1) := by
  unfold cntL
  rw [List.reverse_append]
  show cntM xs.reverse + (if xs.reverse.contains x then 0 else 1) = _
  have e : xs.reverse.contains x = xs.contains x := by
    rw [List.contains_eq_mem, List.contains_eq_mem]
    exact decide_eq_decide.mpr List.mem_reverse
  rw [e]
theorem cntM_le : ∀ xs : List Str, cntM xs ≤ xs.length
  | [] => Nat.le_refl _
  | x :: r => by
    have := cntM_le r
    show cntM r + _ ≤ r.length + 1
    split <;> omega
theorem cntL_le (xs : List Str) : cntL xs ≤ xs.length := by
  have := cntM_le xs.reverse
  rw [List.length_reverse] at this
  exact this
section
variable {prog : Program} {w : World} {A : Around} {R : Result → Shared → Prop} {I : Addr} {fp wr : List Addr} {G : Array GenState → Array GenState → Prop} {n : Nat} {P : Nat → Value → Prop} {St : Nat → Shared → Prop}
theorem take_any (xs : List Str) {i : Nat} (h : i < xs.length) (k : Str) : (xs.take (i + 1)).any (· == k) = ((xs.take i).any (· == k) || decide (k = xs.getD i Str.empty)) := by
  rw [List.take_succ_eq_append_getElem h, List.any_append, List.getD_eq_getElem?_getD, List.getElem?_eq_getElem h]
  congr 1
  show (xs[i] == k || false) = decide (k = xs[i])
  rw [Bool.or_false]
  by_cases e : k = xs[i]
  · rw [decide_eq_true e, e, beq_self_eq_true]
  · rw [decide_eq_false e, beq_eq_false_iff_ne.mpr fun q => e q.symm]
theorem take_cnt (xs : List Str) {i : Nat} (h : i < xs.length) : cntL (xs.take (i + 1)) = cntL (xs.take i) + (if (xs.take i).any (· == xs.getD i Str.empty) = true then 0 else 1) := by
  rw [List.take_succ_eq_append_getElem h, cntL_app, List.getD_eq_getElem?_getD, List.getElem?_eq_getElem h]
  congr 1
  have e : (xs.take i).contains xs[i] = (xs.take i).any (· == xs[i]) := by
    induction xs.take i with
    | nil => rfl
    | cons y ys ih =>
      rw [List.contains_cons, List.any_cons, ih, show (xs[i] == y) = (y == xs[i]) from BEq.comm]
  show (if (xs.take i).contains xs[i] = true then 0 else 1) = if (xs.take i).any (· == xs[i]) = true then 0 else 1
  rw [e]
/-- the walk that fills it -/
theorem fillS (W : WalksS prog w A.in1 I fp wr G n P St) (S : Addr) (hSf : S ∉ fp) (xs : List Str) (hsz : xs.length = n) (hn : n + 1 < scanBound) (hval : ∀ i v, P i v → ∃ t, v = .str (xs.getD i Str.empty) t) :
    ∀ (k i : Nat) (s : Shared), n - i = k → i ≤ n → St i s → s.heap.SetOf (PySem.strKind prog w) S (fun z => (xs.take i).any (· == z)) (cntL (xs.take i)) →
      (∀ s', Moved (S :: wr) G s s' → s'.heap.SetOf (PySem.strKind prog w) S (fun z => (xs.take n).any (· == z)) (cntL (xs.take n)) → R (.ok (.ret .none)) s') →
      codeAny (model prog w) A (.builtin "set.update.loop" ⟨[.ref S, .ref I], []⟩) R s := by
  have hSw : S ∉ wr := fun h => hSf (W.sub _ h)
  have sub1 : ∀ b ∈ wr, b ∈ S :: wr := fun b hb => List.mem_cons_of_mem _ hb
  have keep : ∀ {s s' : Shared} {p : Str → Bool} {m : Nat}, Moved wr G s s' → s.heap.SetOf (PySem.strKind prog w) S p m → s'.heap.SetOf (PySem.strKind prog w) S p m := fun hm hS => by
    obtain ⟨o, es, ep, t, ho, rest⟩ := hS
    exact ⟨o, es, ep, t, hm.heap S _ hSw ho, rest⟩
  intro k
  induction k with
  | zero =>
    intro i s hk hi hst hS hR
    obtain rfl : i = n := by omega
    refine codeAny_builtin PyProof.Rows.F.entry_set_update_loop ?_
    rw [Around.under_plainId PyProof.Rows.F.plain_set_update_loop _]
    show wpAny _ A.in1 (pyNext (.ref I) >>= _) _ _ s
    exact wpAny_bind (W.done s _ _ hst fun s' hm => (show wpAny _ A.in1 (ret Value.none) _ _ s' from wpAny_pure (hR s' (hm.mono sub1) (keep hm hS))))
  | succ k ih =>
    intro i s hk hi hst hS hR
    have hlt : i < n := by omega
    have hlx : i < xs.length := by omega
    refine codeAny_builtin PyProof.Rows.F.entry_set_update_loop ?_
    rw [Around.under_plainId PyProof.Rows.F.plain_set_update_loop _]
    show wpAny _ A.in1 (pyNext (.ref I) >>= _) _ _ s
    refine wpAny_bind (W.item i s _ _ hlt hst fun v s' hP hst' hm => ?_)
    obtain ⟨t, rfl⟩ := hval i v hP
    have hS' := keep hm hS
    show wpAny _ A.in1 (holding [Value.str (xs.getD i Str.empty) t] (setAdd S (.str (xs.getD i Str.empty) t)) >>= _) _ _ s'
    refine wpAny_bind (wpAny_holding ?_)
    unfold setAdd
    refine wpAny_holding (wpAny_bind ((PySem.strKind prog w).pyHash (k := xs.getD i Str.empty) (strKind_is _ _ _ _) ?_))
    have room : cntL (xs.take i) + 1 < scanBound := by
      have := cntL_le (xs.take i)
      rw [List.length_take] at this
      omega
    refine wpAny_setAddHashed_of (knd := PySem.strKind prog w) (s := { s' with toks := s'.toks + 1 }) (strKind_is _ _ _ _) rfl hS' room fun h' hsb hS2 => ?_
    have hSi : h'.SetOf (PySem.strKind prog w) S (fun z => (xs.take (i + 1)).any (· == z)) (cntL (xs.take (i + 1))) := by
      refine SetOf_congr hS2 (fun z => (take_any xs hlx z).symm) ?_
      rw [take_cnt xs hlx]
      split <;> rfl
    refine wpAny_pure ⟨plainId_quiet PyProof.Rows.F.plain_set_update_loop _, ih (i + 1) _ (by omega) hlt (W.frame _ s' _ _ hst' (Nat.le_succ _) fun b hb o e => ?_) hSi fun s'' hm'' hS'' => ?_⟩
    · rw [hsb.2 b (fun h : b = S => hSf (by rw [← h]; exact hb))]; exact e
    · refine hR s'' (Moved.trans W.gtrans ((hm.mono sub1).then_heap (Nat.le_succ _) fun b o hb e => ?_) hm'') hS''
      rw [hsb.2 b (fun h : b = S => hb (by rw [h]; exact List.mem_cons_self))]; exact e
end
end Dl
end
section
set_option Elab.async false
set_option linter.all false
set_option maxRecDepth 100000
set_option maxHeartbeats 4000000
namespace Dl
open PySem PySem.Spec PyProof.Rows L2 StX
/-! set(..) of what gives texts; len of it -/
section
variable {prog : Program} {w : World} {A : Around} {E : Value → Shared → Prop} {s : Shared}
/-- a set that holds nothing yet -/
abbrev set0 (led : Bool) : Obj := { cls := .type "set", dict := none, data := .set #[] 0 (.fresh 0 0 led) }
abbrev With (s : Shared) (h : Heap) : Shared := { s with heap := h }
set_option maxHeartbeats 8000000 in
theorem set_call {v : Value} {T : String} {P : Heap → Prop} {Q : Value → Shared → Prop} (tv : ∀ h : Heap, (∀ b o, s.heap.get? b = some o → h.get? b = some o) → (With s h).TypeIs v T)
    (n1 : isSubtype (.type T) (.type "set") = pure false) (n2 : isSubtype (.type T) (.type "frozenset") = pure false) (n3 : (Value.type T == Value.type "dict") = false)
    (fill : ∀ (led : Bool) (E1 : Value → Shared → Prop), wpAny (model prog w) A.in1.in1 (pyIter v) (fun it s1 => ∀ R1 : Result → Shared → Prop, (∀ h' tk, P h' → (∀ b o, s.heap.get? b = some o → h'.get? b = some o) → R1 (.ok (.ret .none)) { s with heap := h', toks := tk }) →
      codeAny (model prog w) A.in1.in1 (.builtin "set.update.loop" ⟨[.ref s.heap.objs.size, it], []⟩) R1 s1) E1 (With s (s.heap.push (set0 led))))
    (fin : ∀ (h' : Heap) (tk : Nat), P h' → (∀ b o, s.heap.get? b = some o → h'.get? b = some o) →
      Q (.ref s.heap.objs.size) { s with heap := h', toks := tk }) : wpAny (model prog w) A (call (.type "set") [v]) Q E s := by
  have ⟨_, _, _⟩ := PySem.F.called_set.mro
  have m1 := PySem.F.called_set.made
  have m2 := PySem.F.called_set.sub
  have m3 := PySem.F.called_set.notType
  have m4 := PySem.F.called_set.canCreate
  have m5 := PySem.F.typeCall_set_1 v
  refine wpAny_call (codeAny_of_tree (show wpAny _ _ (callAny (.type "set") _) _ _ _ from wpAny_pure ⟨Code.quiet_builtin _ (by decide +kernel), codeAny_builtin PySem.F.entry_type_call ?_⟩))
  rw [Around.under_plain (weight_type_call_type "set" [v] []) rfl]
  repeat (any_goals (first | assumption | wp_step))
  refine codeAny_mono (code_set_new_1 v (E := E) (Q₁ := fun r s1 => ∃ led : Bool, r = .ref s.heap.objs.size ∧ s1 = With s (s.heap.push (set0 led))) fun led => ⟨led, rfl, rfl⟩) fun r s1 hr => ?_
  cases r with
  | error e => exact hr
  | ok fl =>
    cases fl with
    | ret r =>
      obtain ⟨led, rfl, rfl⟩ := hr
      have gS : (s.heap.push (set0 led)).get? s.heap.objs.size = some (set0 led) := Heap.get?_push_size _ rfl
      have tS : (With s (s.heap.push (set0 led))).TypeIs (.ref s.heap.objs.size) "set" := ⟨_, gS, rfl⟩
      have i1 := PySem.F.called_set.init.lookup
      have i2 := PySem.F.called_set.init.bind (.ref s.heap.objs.size)
      repeat (any_goals (first | assumption | wp_step))
      refine codeAny_mono (codeAny_call_builtin (R := wants (fun r s2 => r = .none ∧ ∃ h' tk, s2 = { s with heap := h', toks := tk } ∧ P h' ∧
        ∀ b o, s.heap.get? b = some o → h'.get? b = some o) E) PySem.F.called_set.init.plain PySem.F.entry_set_init (check_set_init_1 tS ?_)) fun r2 s2 hr2 => ?_
      · have kp : ∀ b o, s.heap.get? b = some o → (s.heap.push (set0 led)).get? b = some o := fun b o e => Heap.get?_push_of_some _ e
        have tv := tv _ kp
        unfold Builtin.«set.__init__» noKeywords Builtin.Frozenset.updateFrom
        generalize hPI : pyIter = PI
        wp_walk
        subst hPI
        refine wpAny_mono (fill led _) (fun it s1 h => ?_) fun _ _ h => h
        refine wpAny_bind (wpAny_runValue (h _ fun h' tk hp hk => ?_))
        exact wpAny_pure (wpAny_pure ⟨rfl, h', tk, rfl, hp, hk⟩)
      · cases r2 with
        | error e => exact hr2
        | ok f2 =>
          cases f2 with
          | ret r =>
            obtain ⟨rfl, h', tk, rfl, q1, q2⟩ := hr2
            repeat (any_goals (first | assumption | wp_step))
            exact fin _ _ q1 q2
          | _ => exact hr2.elim
    | _ => exact hr.elim
theorem old_lt {h : Heap} {b : Addr} {o : Obj} (e : s.heap.get? b = some o) : b ≠ s.heap.objs.size := Nat.ne_of_lt (Heap.lt_size e)
theorem get2_push {led : Bool} {o : Obj} : ((s.heap.push (set0 led)).push o).get? s.heap.objs.size = some (set0 led) := Heap.get?_push_of_some _ (Heap.get?_push_size _ rfl)
/-- how the walk over what was given ends -/
theorem fill_end {G0 : Array GenState → Array GenState → Prop} {xs : List Str} {led : Bool} {o : Obj} {wr : List Addr} {R1 : Result → Shared → Prop} {s1 : Shared} (hg : G0 = fun a b => b = a) (hw : ∀ b ∈ wr, b = s.heap.objs.size ∨ b = (s.heap.push (set0 led)).objs.size)
    (hR : ∀ h' tk, h'.SetOf (PySem.strKind prog w) s.heap.objs.size (fun z => (xs.take xs.length).any (· == z)) (cntL (xs.take xs.length)) → (∀ b o, s.heap.get? b = some o → h'.get? b = some o) → R1 (.ok (.ret .none)) { s with heap := h', toks := tk })
    (hm : Moved wr G0 (With s ((s.heap.push (set0 led)).push o)) s1) (hS : s1.heap.SetOf (PySem.strKind prog w) s.heap.objs.size (fun z => (xs.take xs.length).any (· == z)) (cntL (xs.take xs.length))) : R1 (.ok (.ret .none)) s1 := by
  subst hg
  obtain ⟨h', g', d', tk', os'⟩ := s1
  cases (show g' = s.gens from hm.gens)
  cases (show d' = s.drawn from hm.drawn)
  cases (show os' = s.os from hm.os)
  refine hR h' tk' hS fun b u e => hm.heap b u (fun hb => ?_) (Heap.get?_push_of_some _ (Heap.get?_push_of_some _ e))
  have lt := Heap.lt_size e
  rcases hw b hb with z | z
  · rw [z] at lt; exact Nat.lt_irrefl _ lt
  · rw [z, Heap.size_push] at lt; exact absurd lt (Nat.not_lt.mpr (Nat.le_succ _))
theorem set_strs {l : Addr} {items : Array Value} {xs : List Str} {Q : Value → Shared → Prop} (hh : A.handled = none) (hl : s.heap.IsList l items) (hi : StrsAre items.toList xs) (few : xs.length + 1 < scanBound)
    (fin : ∀ (h' : Heap) (tk : Nat), h'.SetOf (PySem.strKind prog w) s.heap.objs.size (fun z => (xs.take xs.length).any (· == z)) (cntL (xs.take xs.length)) → (∀ b o, s.heap.get? b = some o → h'.get? b = some o) →
      Q (.ref s.heap.objs.size) { s with heap := h', toks := tk }) : wpAny (model prog w) A (call (.type "set") [.ref l]) Q E s := by
  have hz : xs.length = items.size := by rw [← StrsAre.len_eq hi, Array.length_toList]
  refine set_call (T := "list") (fun h k => let ⟨o, e, c, _⟩ := hl; ⟨o, k _ _ e, c⟩) PySem.F.sub_list_set PySem.F.sub_list_frozenset (by decide) (fun led E1 => ?_) fin
  have hl1 : (s.heap.push (set0 led)).IsList l items := hl.push _
  have ll : l < s.heap.objs.size := let ⟨o, e, _⟩ := hl; Heap.lt_size e
  have z1 : (s.heap.push (set0 led)).objs.size = s.heap.objs.size + 1 := Heap.size_push ..
  have n1 : l ≠ (s.heap.push (set0 led)).objs.size := by rw [z1]; exact Nat.ne_of_lt (Nat.lt_succ_of_lt ll)
  have n2 : s.heap.objs.size ∉ [(s.heap.push (set0 led)).objs.size, l] := by
    rw [z1, List.mem_cons, List.mem_singleton, not_or]
    exact ⟨Nat.ne_of_lt (Nat.lt_succ_self _), Nat.ne_of_gt ll⟩
  refine wpAny_pyIter_list hl1 fun R1 hR => ?_
  refine fillS (A := A.in1.in1) (xs := xs) ((Walks.list (show A.in1.in1.in1.handled = none by simp [hh]) _ l n1 items).toS) s.heap.objs.size n2 hz (by omega)
    (fun i v hv => SS.strs_at hi i v (by rw [Array.getElem?_toList]; exact hv)) items.size 0 _ (by omega) (Nat.zero_le _) ⟨⟨_, Heap.get?_push_size _ rfl, rfl, rfl⟩, hl1.push _⟩
    (SetOf_congr ((setObjOf_fresh (knd := PySem.strKind prog w) led).setOf get2_push (by unfold scanBound; omega)) (fun _ => rfl) rfl) fun s1 hm hS => ?_
  rw [← hz] at hS
  exact fill_end (led := led) rfl (fun b hb => by simpa using hb) hR hm hS
theorem set_text {x : Str} {t : Tok} {Q : Value → Shared → Prop} (hh : A.handled = none) (few : x.cps.size + 1 < scanBound)
    (fin : ∀ (h' : Heap) (tk : Nat), h'.SetOf (PySem.strKind prog w) s.heap.objs.size (fun z => ((x.cps.toList.map fun k => (⟨#[k]⟩ : Str)).take (x.cps.toList.map fun k => (⟨#[k]⟩ : Str)).length).any (· == z)) (cntL ((x.cps.toList.map fun k => (⟨#[k]⟩ : Str)).take (x.cps.toList.map fun k => (⟨#[k]⟩ : Str)).length)) → (∀ b o, s.heap.get? b = some o → h'.get? b = some o) →
      Q (.ref s.heap.objs.size) { s with heap := h', toks := tk }) : wpAny (model prog w) A (call (.type "set") [.str x t]) Q E s := by
  generalize hx : (x.cps.toList.map fun k => (⟨#[k]⟩ : Str)) = xs at fin
  have hz : xs.length = x.cps.size := by rw [← hx, List.length_map, Array.length_toList]
  refine set_call (T := "str") (fun h k => rfl) PySem.F.sub_str_set PySem.F.sub_str_frozenset (by decide) (fun led E1 => ?_) fin
  have z1 : (s.heap.push (set0 led)).objs.size = s.heap.objs.size + 1 := Heap.size_push ..
  have n2 : s.heap.objs.size ∉ [(s.heap.push (set0 led)).objs.size] := by
    rw [z1, List.mem_singleton]
    exact Nat.ne_of_lt (Nat.lt_succ_self _)
  refine wpAny_pyIter_str fun o St0 W st R1 hR => ?_
  refine fillS (A := A.in1.in1) (xs := xs) (W A.in1.in1.in1 (by simp [hh])).toS s.heap.objs.size n2 hz (by omega)
    (fun i v hv => ?_) x.cps.size 0 _ (by omega) (Nat.zero_le _) st
    (SetOf_congr ((setObjOf_fresh (knd := PySem.strKind prog w) led).setOf get2_push (by unfold scanBound; omega)) (fun _ => rfl) rfl) fun s1 hm hS => ?_
  · obtain ⟨c, u, hc, rfl⟩ := hv
    refine ⟨u, ?_⟩
    rw [← hx, List.getD_eq_getElem?_getD, List.getElem?_map, Array.getElem?_toList, hc]; rfl
  · rw [← hz] at hS
    exact fill_end (led := led) rfl (fun b hb => by simpa using hb) hR hm hS
end
/-! len(set(..)) of a list of texts, or of a text -/
/-- the texts that a value gives -/
def TxV (K : Kx) (H : Hp) (x : V) (xs : List Str) : Prop := (∃ l, x = .ref l ∧ SqL K H l (xs.map V.str)) ∨ ∃ z : Str, x = .str z ∧ xs = z.cps.toList.map fun k => (⟨#[k]⟩ : Str)
def tLenSetA (K : Kx) (ta : TE) : TE := fun σ H Q => ta σ H fun x H1 => ∃ xs : List Str, TxV K H1 x xs ∧ xs.length ≤ 1000 ∧ Q (.int (cntL xs : Nat)) H1
theorem pe_lenSetA {X : Cx} {a : Expr} {ta : TE} {p p2 q pos : Pos} (hc : X.calm = true) (hg : Gl X "len") (hm : X.mg "len" = none) (hg2 : Gl X "set") (hm2 : X.mg "set" = none) (ha : PE X a ta)
    (na : starEach [a] X.env = (false, eval a X.env) :: starEach [] X.env := by rfl) : PE X (.Call (.Name "len" p) [.Call (.Name "set" p2) [a] [] q] [] pos) (tLenSetA X.kx ta) := by
  refine ⟨fun pins s σ H Q I h => Call_ (ld_blt I hg hm boot_len (PyProof.Rows.callWith_builtin1 (PyProof.Rows.args_cons (Call_ (ld_blt I hg2 hm2 boot_set (PyProof.Rows.callWith_type1 (PyProof.Rows.args_cons (thn (ha.run pins s σ H _ I h) fun v s1 z => PyProof.Rows.args_nil ?_) na) na rfl))) rfl) rfl rfl))⟩
  obtain ⟨x, H1, I1, r1, xs, hx, few, q1⟩ := z
  have few2 : xs.length + 1 < scanBound := by unfold scanBound; omega
  have fin : ∀ (h' : Heap) (tk : Nat), h'.SetOf (PySem.strKind X.prog X.w) s1.heap.objs.size (fun z => (xs.take xs.length).any (· == z)) (cntL (xs.take xs.length)) → (∀ b o, s1.heap.get? b = some o → h'.get? b = some o) →
      wpAny (model X.prog X.w) X.A (spliced (backTo pos (starEach [] X.env))) (fun vs s2 => wpAny (model X.prog X.w) X.A (call (.builtin "len") (Value.ref s1.heap.objs.size :: vs)) (EP X pins σ Q) X.xe s2) X.xe { s1 with heap := h', toks := tk } := fun h' tk hS hk => by
    refine PyProof.Rows.args_nil ?_
    rw [List.take_length] at hS
    have cl := cntL_le xs
    obtain ⟨o, es, ep, t, ho, hex, hd, _, _, _, hf, hn⟩ := hS
    have I2 : Inv X pins σ H1 { s1 with heap := h', toks := tk } := I1.kept hk
    exact call_len_set ho hex hd hf (by rw [hn]; omega) ⟨.int (cntL xs : Nat), H1, I2.tok _, ⟨_, by rw [hn]⟩, q1⟩
  rcases hx with ⟨l, rfl, hq⟩ | ⟨z, rfl, rfl⟩
  · obtain rfl : v = Value.ref l := r1
    obtain ⟨its, r, pl, hz⟩ := I1.list hq
    exact set_strs (I1.ok.hd hc) pl.isList (by simpa using strsAre_of r) few2 fin
  · obtain ⟨t, rfl⟩ := r1
    rw [List.length_map, Array.length_toList] at few2
    exact set_text (I1.ok.hd hc) few2 fin
def dLenSet (da : Dn) : Dn := fun ρ s => (da ρ s).bind fun p => (match p.1 with
  | .lst xs => strsOf xs
  | .str z => some (z.cps.toList.map fun k => (⟨#[k]⟩ : Str))
  | _ => none).bind fun xs => if xs.length ≤ 1000 then some (.int (cntL xs : Nat), p.2) else none
theorem sn_lenSet {K : Kx} {te : TE} {da : Dn} (h1 : SndE K te da) : SndE K (tLenSetA K te) (dLenSet da) := fun c I H σ ρ s d s' e h Q q => by
  obtain ⟨⟨x, s1⟩, ha, h⟩ := bind_some_of h
  obtain ⟨xs, hx, h⟩ := bind_some_of h
  split at h
  · rename_i hl
    cases h
    refine h1 _ _ _ _ _ _ _ _ e ha _ fun v I1 H1 g1 w1 r1 => ⟨xs, ?_, hl, q _ I1 H1 g1 w1 (.int _)⟩
    cases r1 with
    | @lst a vs _ hI r =>
      have ev := strsOf_rep r hx
      subst ev
      exact .inl ⟨a, rfl, .of (g1.s2.lst hI)⟩
    | str z => cases hx; exact .inr ⟨z, rfl, rfl⟩
    | _ => cases hx
  · cases h
theorem ee_lenSet {X : Cx} {a : Expr} {ta : TE} {da : Dn} {p p2 q pos : Pos} (hc : X.calm = true) (hg : Gl X "len") (hm : X.mg "len" = none) (hg2 : Gl X "set") (hm2 : X.mg "set" = none) (ha : EE X a ta da)
    (na : starEach [a] X.env = (false, eval a X.env) :: starEach [] X.env := by rfl) : EE X (.Call (.Name "len" p) [.Call (.Name "set" p2) [a] [] q] [] pos) (tLenSetA X.kx ta) (dLenSet da) := ⟨pe_lenSetA hc hg hm hg2 hm2 ha.p na, sn_lenSet ha.s⟩
end Dl
end
section
set_option Elab.async false
set_option linter.all false
set_option maxRecDepth 100000
set_option maxHeartbeats 2000000
/-! sets of tuples of flat things of any kind (the table's own laws are HandS.TupSets'): what is asked of the things -/
namespace GS
open PySem PySem.Spec PyProof.Rows L2
section
variable {P : Program} {w : World} {κ : Type} [DecidableEq κ] {knd : KeyKind P w κ} {A : Around} {E : Value → Shared → Prop} {s : Shared}
theorem noClass (n : Nat) {v : Value} (h : carriedByValue v = true) : ofAClassStatement n v = pure false := by
  cases v with
  | ref a => cases h
  | _ => cases n <;> rfl
theorem noClassT {k : List κ} {b : Addr} {Q : Bool → Shared → Prop} (hk : IsTupleKey knd s.heap k b) (h : Q false s) : wpAny (model P w) A (ofAClassStatement 8 (.ref b)) Q E s := by
  have hT := hk.typeIs
  obtain ⟨o, its, n, ho, -, hd, hi⟩ := hk
  have bv := hi.byValue
  unfold ofAClassStatement
  refine wpAny_bind (wpAny_typeOf hT ?_)
  dsimp only
  have e : (("tuple" : String) == "tuple") = true := by decide
  simp only [e, if_true, Bool.not_true, Bool.false_eq_true, if_false]
  try refine wpAny_bind (wpAny_pure ?_)
  try simp only [Bool.not_true, Bool.false_eq_true, if_false]
  show wpAny _ _ (seqItems? (.ref b) >>= _) _ _ s
  refine wpAny_bind (wpAny_seqItems ho hd ?_)
  dsimp only
  refine wpAny_bind ?_
  show wpAny _ _ (forIn its _ _) _ _ s
  rw [← Array.forIn_toList]
  refine wpAny_forIn_list _ (fun rest r s' => r.1 = none ∧ s' = s ∧ ∀ v ∈ rest, carriedByValue v = true) _ ?_ ?_ _ _ ⟨rfl, rfl, bv⟩
  · intro v rest r s' ⟨_, es, all⟩
    subst es
    rw [noClass _ (all v List.mem_cons_self)]
    refine wpAny_bind (wpAny_pure ?_)
    simp only [Bool.false_eq_true, if_false]
    exact wpAny_pure ⟨rfl, rfl, fun u hu => all u (List.mem_cons_of_mem _ hu)⟩
  · intro r s' ⟨e1, es, _⟩
    obtain ⟨r1, r2⟩ := r
    have e1 : r1 = none := e1
    subst e1 es
    exact wpAny_pure h
/-- is the hash the value's own? no matter -/
theorem byVal (n : Nat) {v : Value} (h : carriedByValue v = true) : ∃ b, hashByValue n v = pure b := by
  cases v with
  | ref a => cases h
  | _ => cases n <;> exact ⟨_, rfl⟩
theorem byValT {k : List κ} {b : Addr} {Q : Bool → Shared → Prop} (hk : IsTupleKey knd s.heap k b) (h : ∀ c, Q c s) : wpAny (model P w) A (hashByValue 8 (.ref b)) Q E s := by
  have hT := hk.typeIs
  obtain ⟨o, its, n, ho, -, hd, hi⟩ := hk
  have bv := hi.byValue
  unfold hashByValue
  refine wpAny_bind (wpAny_specialOf hT F.slot_tuple_hash.lookup ?_)
  show wpAny _ _ (seqItems? (.ref b) >>= _) _ _ s
  refine wpAny_bind (wpAny_seqItems ho hd ?_)
  refine wpAny_bind ?_
  show wpAny _ _ (forIn its _ _) _ _ s
  rw [← Array.forIn_toList]
  refine wpAny_forIn_list _ (fun rest r s' => s' = s ∧ r.1 = none ∧ ∀ v ∈ rest, carriedByValue v = true) _ ?_ ?_ _ _ ⟨rfl, rfl, bv⟩
  · intro v rest r s' ⟨es, H⟩
    subst es
    obtain ⟨b, e⟩ := byVal 7 (H.2 v List.mem_cons_self)
    rw [e]
    refine wpAny_bind (wpAny_pure ?_)
    cases b with
    | true =>
      simp only [Bool.not_true, Bool.false_eq_true, if_false]
      exact wpAny_pure ⟨rfl, rfl, fun u hu => H.2 u (List.mem_cons_of_mem _ hu)⟩
    | false =>
      simp only [Bool.not_false, if_true]
      exact wpAny_pure (wpAny_pure (h _))
  · intro r s' ⟨es, e1, _⟩
    obtain ⟨r1, r2⟩ := r
    have e1 : r1 = none := e1
    subst e1 es
    exact wpAny_pure (h _)
/-- no search among tuples can be seen -/
theorem unseen {k : List κ} {b : Addr} {Q : Bool → Shared → Prop} (hk : IsTupleKey knd s.heap k b) {ys : List Value} (hy : ∀ y ∈ ys, ∃ k' c, y = Value.ref c ∧ IsTupleKey knd s.heap k' c) (h : Q false s) :
    wpAny (model P w) A (searchCouldBeSeen (.ref b) ys) Q E s := by
  unfold searchCouldBeSeen
  refine wpAny_bind (wpAny_forIn_list _ (fun rest r s' => r.1 = none ∧ s' = s ∧ ∀ y ∈ rest, ∃ k' c, y = Value.ref c ∧ IsTupleKey knd s.heap k' c) _ ?_ ?_ _ _ ⟨rfl, rfl, hy⟩)
  · intro v rest r s' ⟨_, es, all⟩
    subst es
    obtain ⟨k', c, rfl, hc⟩ := all v List.mem_cons_self
    have all' : ∀ y ∈ rest, ∃ k' c, y = Value.ref c ∧ IsTupleKey knd s'.heap k' c := fun u hu => all u (List.mem_cons_of_mem _ hu)
    dsimp only
    by_cases hv : (b == c || (carriedByValue (.ref b) && carriedByValue (.ref c))) = true
    · exact wp_if_pos hv (wpAny_pure ⟨rfl, rfl, all'⟩)
    · refine wp_if_neg hv (wpAny_bind (wpAny_eqIsQuiet_tuple hk ?_))
      simp only [Bool.not_true, Bool.false_eq_true, if_false]
      refine wpAny_bind (wpAny_eqIsQuiet_tuple hc ?_)
      simp only [Bool.not_true, Bool.false_eq_true, if_false]
      refine wpAny_bind (noClassT hk ?_)
      simp only [Bool.false_eq_true, if_false]
      refine wpAny_bind (noClassT hc ?_)
      simp only [Bool.false_eq_true, if_false]
      exact wpAny_pure ⟨rfl, rfl, all'⟩
  · intro r s' ⟨e1, es, _⟩
    obtain ⟨r1, r2⟩ := r
    have e1 : r1 = none := e1
    subst e1 es
    exact wpAny_pure h
end
end GS
end
section
set_option Elab.async false
set_option linter.all false
set_option maxRecDepth 100000
set_option maxHeartbeats 2000000
namespace GS
open PySem PySem.Spec PyProof.Rows L2
section
variable {P : Program} {w : World} {κ : Type} [DecidableEq κ] (knd : KeyKind P w κ)
abbrev hT (k : List κ) : Int := tupleKeyHash knd k
def ent (L : List (Addr × List κ)) : List (Int × Value) := L.map fun p => (hT knd p.2, Value.ref p.1)
/-- at a stands a set with the tuples L, as the table has them -/
structure SetG (h : Heap) (a : Addr) (L : List (Addr × List κ)) (es : Array (Int × Value)) (ep : Nat) (t : SetTable) : Prop where
  ob : ∃ o, h.get? a = some o ∧ o.ExactSet ∧ o.data = .set es ep t
  rows : es.toList = ent knd L
  tab : TabOk t (L.map fun p => hT knd p.2)
  nd : (L.map (·.2)).Nodup
  tup : ∀ p ∈ L, IsTupleKey knd h p.2 p.1
  led : w.params.followText "set-order" = true ∨ t.led = true
  room : L.length * 5 < t.mask * 3
  few : L.length < 64
variable {knd} {A : Around} {E : Value → Shared → Prop} {s : Shared} {a : Addr} {L : List (Addr × List κ)} {es : Array (Int × Value)} {ep : Nat} {t : SetTable}
theorem ent_len (L : List (Addr × List κ)) : (ent knd L).length = L.length := List.length_map _
theorem size_of (h : es.toList = ent knd L) : es.size = L.length := by
  rw [← Array.length_toList, h, ent_len]
theorem ent_at (h : es.toList = ent knd L) {i : Nat} {p : Addr × List κ} (hp : L[i]? = some p) : es[i]? = some (hT knd p.2, Value.ref p.1) := by
  rw [← Array.getElem?_toList, h, ent, List.getElem?_map, hp]; rfl
theorem fits_of {n : Nat} {hs : List Int} (T : TabOk t hs) (hn : hs.length = n) (hm : n ≤ t.mask) : t.fits n = true := by
  have h1 := T.sz
  unfold SetTable.fits SetTable.fill
  rw [T.dm, Bool.and_eq_true, beq_iff_eq, decide_eq_true_eq]
  exact ⟨h1.trans hn, by show t.place.size + 0 ≤ t.mask; omega⟩
theorem SetG.fits (R : SetG knd s.heap a L es ep t) : t.fits es.size = true := by
  have := R.room
  have e := size_of R.rows
  exact fits_of R.tab (by rw [List.length_map, e]) (by omega)
theorem SetG.gw (R : SetG knd s.heap a L es ep t) : ¬ t.gaveWay = true := by
  unfold SetTable.gaveWay
  rw [mask_odd R.tab.mok]; decide
theorem SetG.len (R : SetG knd s.heap a L es ep t) : t.place.toList.length = L.length := by
  have h := R.tab.sz
  rw [List.length_map] at h
  rw [Array.length_toList, h]
theorem nth_dummy (m : Nat) : ∀ (n : Nat) (p : SetTable.Probe), p.dummy = none → (nth m p n).dummy = none
  | 0, _, h => h
  | n + 1, p, h => nth_dummy m n (adv m p) (by unfold adv; split <;> exact h)
/-- where the search for k stands after c steps -/
abbrev stand (t : SetTable) (h : Int) (c : Nat) : SetTable.Probe := nth t.mask (runAt t.mask (SetTable.bits h % (t.mask + 1)) (SetTable.bits h)) c
theorem stand_add (t : SetTable) (h : Int) (c q : Nat) : nth t.mask (stand t h c) q = stand t h (c + q) := (nth_add t.mask c _ q).symm
theorem stand_j (t : SetTable) (h : Int) (c q : Nat) : (nth t.mask (stand t h c) q).j = way t.mask h (c + q) := congrArg SetTable.Probe.j (stand_add t h c q)
/-- what one look at the table meets, from the c-th step on: an entry with k's hash, or the empty slot K -/
theorem look (R : SetG knd s.heap a L es ep t) (h : Int) {K c : Nat} (hKf : K < 10 * SetTable.turns t.mask) (hK : way t.mask h K ∉ t.place.toList) (hKb : ∀ c, c < K → way t.mask h c ∈ t.place.toList) (hc : c ≤ K) :
    (∃ (q i : Nat) (p : Addr × List κ), c + q < K ∧ L[i]? = some p ∧ t.place.toList[i]? = some (way t.mask h (c + q)) ∧ (∀ (c' i' : Nat) (p' : Addr × List κ), c ≤ c' → c' < c + q → t.place.toList[i']? = some (way t.mask h c') → L[i']? = some p' → hT knd p'.2 ≠ h) ∧
      t.probe (fun i => (es[i]?.map (·.1)).getD 0) h (stand t h c) = some (.candidate (way t.mask h (c + q)) i (stand t h (c + q + 1)))) ∨
    ((∀ (c' i' : Nat) (p' : Addr × List κ), c ≤ c' → c' < K → t.place.toList[i']? = some (way t.mask h c') → L[i']? = some p' → hT knd p'.2 ≠ h) ∧
      t.probe (fun i => (es[i]?.map (·.1)).getD 0) h (stand t h c) = some (.empty (way t.mask h K) none)) := by
  have at' : ∀ (i : Nat) p, L[i]? = some p → (fun i => (es[i]?.map (·.1)).getD 0) i = hT knd p.2 := fun i p hp => by
    show (es[i]?.map (·.1)).getD 0 = _
    rw [ent_at R.rows hp]; rfl
  have no : ∀ {N : Nat}, (∀ k' i', k' < N → t.place.toList[i']? = some (nth t.mask (stand t h c) k').j → (fun i : Nat => ((es[i]?.map (fun e : Int × Value => e.1)).getD 0 : Int)) i' ≠ h) → ∀ (c' i' : Nat) (p' : Addr × List κ), c ≤ c' → c' < c + N → t.place.toList[i']? = some (way t.mask h c') → L[i']? = some p' → hT knd p'.2 ≠ h := fun {N} H c' i' p' h1 h2 h3 h4 e => by
    refine H (c' - c) i' (by omega) ?_ ((at' i' p' h4).trans e)
    rw [stand_j, show c + (c' - c) = c' by omega]; exact h3
  rcases go_spec t R.tab.ris R.tab.dm (fun i => (es[i]?.map (·.1)).getD 0) h (10 * SetTable.turns t.mask) (K - c) (stand t h c) (nth_dummy _ _ _ rfl) (by omega)
      (fun q hq => by rw [stand_j]; exact hKb (c + q) (by omega)) (by rw [stand_j, show c + (K - c) = K by omega]; exact hK) with ⟨q, i, hq, hi, hh, hno, hpr⟩ | ⟨hno, hpr⟩
  · rw [stand_j] at hi
    have hil : i < L.length := by rw [← R.len]; exact (List.getElem?_eq_some_iff.mp hi).1
    refine .inl ⟨q, i, L[i], by omega, List.getElem?_eq_getElem hil, hi, no hno, ?_⟩
    rw [stand_j, stand_add] at hpr
    exact hpr
  · refine .inr ⟨fun c' i' p' h1 h2 => no (N := K - c) hno c' i' p' h1 (by omega), ?_⟩
    rw [stand_j, show c + (K - c) = K by omega] at hpr
    exact hpr
/-- the search, from its c-th step on; what is k stands ahead -/
theorem seek (R : SetG knd s.heap a L es ep t) {x : Addr} {k : List κ} (hx : IsTupleKey knd s.heap k x) (hu : A.units < cLine) {K : Nat} (hKf : K < 10 * SetTable.turns t.mask)
    (hK : way t.mask (hT knd k) K ∉ t.place.toList) (hKb : ∀ c, c < K → way t.mask (hT knd k) c ∈ t.place.toList) {Q : SetFound → Shared → Prop}
    (hin : k ∈ L.map (·.2) → Q (.there none) s) (hout : k ∉ L.map (·.2) → Q (.free (way t.mask (hT knd k) K) false) s) :
    ∀ (f c : Nat) (st : Option SetTable.Probe), st.getD (t.probeStart (hT knd k)) = stand t (hT knd k) c → c ≤ K → K < f + c →
      (∀ (i : Nat) p, L[i]? = some p → p.2 = k → ∃ c', c ≤ c' ∧ c' < K ∧ t.place.toList[i]? = some (way t.mask (hT knd k) c')) →
      wpAny (model P w) A (setSearchFrom a (.ref x) (hT knd k) true f st) Q E s
  | 0, c, st, _, hc, hf, _ => absurd hf (by omega)
  | f + 1, c, st, hst, hc, hf, hre => by
    obtain ⟨o, ho, hex, hd⟩ := R.ob
    rw [setSearchFrom_succ]
    refine wpAny_bind (wpAny_setState_of ho hd R.fits ?_)
    dsimp only
    refine wp_if_neg R.gw ?_
    rw [hst]
    rcases look R (hT knd k) hKf hK hKb hc with ⟨q, i, p, hq, hp, hi, hno, hpr⟩ | ⟨hno, hpr⟩
    · rw [hpr]
      dsimp only
      have hmem : p ∈ L := List.mem_of_getElem? hp
      have rest : wpAny (model P w) A (searchRest a (.ref x) (hT knd k) true f es t (way t.mask (hT knd k) (c + q)) i (stand t (hT knd k) (c + q + 1))) Q E s := by
        unfold searchRest
        rw [ent_at R.rows hp]
        refine wpAny_bind (wpAny_holding (wpAny_eqBool_tuple hu (R.tup p hmem) hx ?_))
        refine wpAny_bind (wpAny_setState_of ho hd R.fits ?_)
        dsimp only
        by_cases hkk : p.2 = k
        · exact wp_if_pos (by simp [hkk]) (wpAny_pure (hin (List.mem_map.mpr ⟨p, hmem, hkk⟩)))
        · refine wp_if_neg (by simp [hkk]) ?_
          rw [sameMem]
          dsimp only
          simp only [if_true, slot_live R.tab.ris hi, ent_at R.rows hp]
          refine wpAny_bind (wpAny_isSame_ref_self (wpAny_bind (wpAny_pure ?_)))
          simp only [if_true]
          refine wp_if_neg (by simp [hkk]) (seek R hx hu hKf hK hKb hin hout f (c + q + 1) _ rfl (by omega) (by omega) fun i0 p0 h0 hk0 => ?_)
          obtain ⟨c', a1, a2, a3⟩ := hre i0 p0 h0 hk0
          refine ⟨c', ?_, a2, a3⟩
          rcases Nat.lt_trichotomy c' (c + q) with z | z | z
          · exact absurd (congrArg (hT knd) hk0) (hno c' i0 p0 a1 z a3 h0)
          · exfalso
            rw [z] at a3
            have s1 := slot_live R.tab.ris hi
            rw [slot_live R.tab.ris a3] at s1
            injection s1 with s1
            rw [s1, hp] at h0
            exact hkk ((congrArg Prod.snd (Option.some.inj h0)).trans hk0)
          · exact z
      by_cases hl : t.led = true
      · exact wp_if_neg (by simp [hl]) rest
      · refine wp_if_pos (by simp [hl]) (wpAny_bind (unseen hx (fun y hy => ?_) (wp_if_neg (by decide) rest)))
        obtain ⟨e, he, ee⟩ := List.mem_map.mp hy
        have he2 : e ∈ es.toList := by
          have : e ∈ es ∧ e.1 = hT knd k := by simpa using he
          simpa using this.1
        rw [R.rows] at he2
        obtain ⟨p2, hp2, e2⟩ := List.mem_map.mp he2
        exact ⟨p2.2, p2.1, by rw [← ee, ← e2], R.tup p2 hp2⟩
    · rw [hpr]
      refine wpAny_pure (hout fun hm => ?_)
      obtain ⟨p0, h0, hk0⟩ := List.mem_map.mp hm
      obtain ⟨i0, hi0, e0⟩ := List.getElem_of_mem h0
      have h00 : L[i0]? = some p0 := by rw [List.getElem?_eq_getElem hi0, e0]
      obtain ⟨c', a1, a2, a3⟩ := hre i0 p0 h00 hk0
      exact hno c' i0 p0 a1 a2 a3 h00 (congrArg (hT knd) hk0)
/-- the search that adding asks for -/
theorem seekA (R : SetG knd s.heap a L es ep t) {x : Addr} {k : List κ} (hx : IsTupleKey knd s.heap k x) (hu : A.units < cLine) {Q : SetFound → Shared → Prop}
    (hin : k ∈ L.map (·.2) → Q (.there none) s)
    (hout : ∀ K, k ∉ L.map (·.2) → way t.mask (hT knd k) K ∉ t.place.toList → (∀ c, c < K → way t.mask (hT knd k) c ∈ t.place.toList) → Q (.free (way t.mask (hT knd k) K) false) s) :
    wpAny (model P w) A (setSearch a (.ref x) (hT knd k) true) Q E s := by
  have hroom := R.room
  obtain ⟨K, hKf, hK, hKb⟩ := R.tab.first (by rw [List.length_map]; omega) (hT knd k)
  have hbig : K < 100000 := by
    have : 10 * SetTable.turns t.mask ≤ 1420 := by
      unfold SetTable.turns
      rcases R.tab.mok with e | e | e <;> omega
    omega
  unfold setSearch
  refine seek R hx hu hKf hK hKb hin (fun hn => hout K hn hK hKb) 100000 0 none rfl (Nat.zero_le _) (by omega) fun i p hp hk => ?_
  have hil : i < t.place.toList.length := by rw [R.len]; exact (List.getElem?_eq_some_iff.mp hp).1
  have hj := List.getElem?_eq_getElem hil
  obtain ⟨c, hc, e⟩ := R.tab.before hK (by rw [List.getElem?_map, hp, ← hk]; rfl) hj
  exact ⟨c, Nat.zero_le _, hc, by rw [hj, e]⟩
end
end GS
end
section
set_option Elab.async false
set_option linter.all false
set_option maxRecDepth 100000
set_option maxHeartbeats 2000000
namespace GS
open PySem PySem.Spec PyProof.Rows L2
section
variable {P : Program} {w : World} {κ : Type} [DecidableEq κ] {knd : KeyKind P w κ} {A : Around} {E : Value → Shared → Prop} {s : Shared} {a : Addr} {L : List (Addr × List κ)} {es : Array (Int × Value)} {ep : Nat} {t : SetTable}
/-- a tuple stays where the set alone is written -/
theorem tup_same {h h' : Heap} {k : List κ} {a b : Addr} {o : Obj} (hb : IsTupleKey knd h k b) (ho : h.get? a = some o) (hd : o.data = .set es ep t) (hs : Heap.SameBut a h h') : IsTupleKey knd h' k b := by
  obtain ⟨o', its, n, ho', hc, hd', hi⟩ := hb
  refine ⟨o', its, n, (hs.2 b fun e => ?_).trans ho', hc, hd', hi⟩
  rw [e, ho] at ho'
  cases ho'
  rw [hd] at hd'
  cases hd'
theorem tup_keep {h h' : Heap} {k : List κ} {b : Addr} (x : IsTupleKey knd h k b) (hk : ∀ c o, h.get? c = some o → h'.get? c = some o) : IsTupleKey knd h' k b := by
  obtain ⟨o, its, n, ho, r⟩ := x
  exact ⟨o, its, n, hk b o ho, r⟩
/-- entries picked by an arrangement of their places -/
theorem picked (hr : es.toList = ent knd L) : ∀ l : List Nat, (∀ i ∈ l, i < L.length) → ∃ L2 : List (Addr × List κ), l.filterMap (fun i => es[i]?) = ent knd L2 ∧ L2 = l.filterMap (fun i => L[i]?) ∧ (L2.map fun p => hT knd p.2) = l.map fun i => (es.map (·.1)).getD i 0
  | [], _ => ⟨[], rfl, rfl, rfl⟩
  | i :: l, hl => by
    have hi := hl i List.mem_cons_self
    obtain ⟨L2, e1, e2, e3⟩ := picked hr l fun j hj => hl j (List.mem_cons_of_mem _ hj)
    have hp : L[i]? = some L[i] := List.getElem?_eq_getElem hi
    have he := ent_at hr hp
    refine ⟨L[i] :: L2, ?_, ?_, ?_⟩
    · rw [List.filterMap_cons_some he, e1]; rfl
    · rw [List.filterMap_cons_some hp, e2]
    · have e5 : (es.map (·.1))[i]? = some (hT knd (L[i]).2) := by rw [Array.getElem?_map, he]; rfl
      rw [List.map_cons, List.map_cons, e3, show (es.map (·.1)).getD i 0 = hT knd (L[i]).2 by simp [Array.getD_eq_getD_getElem?, e5]]
theorem all_places {α : Type} (L : List α) : (List.range L.length).filterMap (fun i => L[i]?) = L := by
  have key : ∀ n, n ≤ L.length → (List.range n).filterMap (fun i => L[i]?) = L.take n := fun n => by
    induction n with
    | zero => exact fun _ => rfl
    | succ n ih =>
      intro hn
      rw [List.range_succ, List.filterMap_append, ih (Nat.le_of_lt hn), List.take_add_one, List.getElem?_eq_getElem hn, List.filterMap_cons_some (List.getElem?_eq_getElem hn)]; rfl
  rw [key _ (Nat.le_refl _), List.take_length]
theorem arranged (hr : es.toList = ent knd L) {order : Array Nat} (hp : order.toList.Perm (List.range L.length)) :
    ∃ L2, (order.filterMap (es[·]?)).toList = ent knd L2 ∧ L2.Perm L ∧ (L2.map fun p => hT knd p.2) = order.toList.map fun i => (es.map (·.1)).getD i 0 := by
  obtain ⟨L2, e1, e2, e3⟩ := picked hr order.toList fun i hi => List.mem_range.mp (hp.mem_iff.mp hi)
  refine ⟨L2, by first | (rw [Array.toList_filterMap]; exact e1) | simpa using e1, ?_, e3⟩
  have h1 := hp.filterMap fun i => L[i]?
  rw [all_places, ← e2] at h1
  exact h1
/-- the table laid anew -/
theorem relay {o : Obj} (ho : s.heap.get? a = some o) (hex : o.ExactSet) (hd : o.data = .set es ep t) (hrows : es.toList = ent knd L) (T : TabOk t (L.map fun p => hT knd p.2)) (hfl : L.length ≤ t.mask)
    (nd : (L.map (·.2)).Nodup) (tup : ∀ p ∈ L, IsTupleKey knd s.heap p.2 p.1) (ld : w.params.followText "set-order" = true ∨ t.led = true) (few : L.length < 64) {wanted M : Nat}
    (hw : SetTable.sizeAbove wanted - 1 = M) (hM : MaskOk M) (hw2 : SetTable.sizeAbove wanted ≤ 128) (hn : L.length * 5 < M * 3) {Q : Unit → Shared → Prop}
    (hQ : ∀ h' L' es' ep' t', Heap.SameBut a s.heap h' → SetG knd h' a L' es' ep' t' → L'.Perm L → Q () { s with heap := h' }) : wpAny (model P w) A (setRelay a wanted) Q E s := by
  have hsl := size_of hrows
  obtain ⟨t', order, e, hp, T', em, el, _, ed⟩ := relaid_ok t (hs := es.map (·.1)) (wanted := wanted) hw hM (by rw [Array.size_map, hsl]; omega)
  rw [Array.size_map, hsl] at hp
  obtain ⟨L2, r1, r2, r3⟩ := arranged hrows hp
  rw [← r3] at T'
  have hs2 : (order.filterMap (es[·]?)).size = es.size := by rw [size_of r1, r2.length_eq, hsl]
  rw [setRelay_eq]
  refine wpAny_bind (wpAny_setState_of ho hd (by rw [hsl]; exact fits_of T (List.length_map _) hfl) ?_)
  dsimp only
  refine wp_if_neg (by rw [sizeLine_eq]; omega) ?_
  try refine wpAny_bind (wpAny_pure ?_)
  rw [e]
  dsimp only
  refine wpAny_bind ?_
  refine wp_if_neg (by rw [hs2]; simp) ?_
  try refine wpAny_bind (wpAny_pure ?_)
  refine wpAny_pure ?_
  dsimp only
  refine wpAny_storeSet_of ho hd ?_ (by rw [hs2, hsl, sizeLine_eq]; omega)
  have sb : Heap.SameBut a s.heap (s.heap.update a (Obj.putSet (order.filterMap (es[·]?)) t')) := Heap.SameBut.update ..
  exact hQ _ L2 _ (ep + 1) t' sb ⟨⟨_, store_at ho hd, ⟨hex.1, hex.2.1, hex.2.2⟩, rfl⟩, r1, T', (r2.map (·.2)).nodup_iff.mpr nd, fun p hpm => tup_same (tup p (r2.mem_iff.mp hpm)) ho hd sb, by rw [el]; exact ld, by rw [r2.length_eq, em]; exact hn, by rw [r2.length_eq]; exact few⟩ r2
theorem tab_plain {hs : List Int} (T : TabOk t hs) (b : Bool) : TabOk (if b = true then t else { t with plain := false }) hs := by
  cases b
  · exact ⟨T.ris, T.dm, T.sz, T.mok, T.bd, T.reach⟩
  · exact T
/-- one more tuple -/
theorem adds (R : SetG knd s.heap a L es ep t) {x : Addr} {k : List κ} (hx : IsTupleKey knd s.heap k x) (hu : A.units < cLine) (hfew : L.length + 1 < 64) {Q : Bool → Shared → Prop}
    (hQ : ∀ b h' L' es' ep' t', Heap.SameBut a s.heap h' → SetG knd h' a L' es' ep' t' → (k ∈ L.map (·.2) → L' = L) → (k ∉ L.map (·.2) → L'.Perm ((x, k) :: L)) → Q b { s with heap := h' }) :
    wpAny (model P w) A (setAddHashed a (.ref x) (hT knd k)) Q E s := by
  obtain ⟨o, ho, hex, hd⟩ := R.ob
  have hsl := size_of R.rows
  have hroom := R.room
  unfold setAddHashed
  refine wpAny_holding ?_
  rw [show (100000 : Nat) = 99999 + 1 from rfl, setAddHashedIn_succ]
  refine wpAny_bind (wpAny_setState_of ho hd R.fits ?_)
  dsimp only
  refine wp_if_neg (by simp [byScan, Value.scannable]) ?_
  try refine wpAny_bind (wpAny_pure ?_)
  refine wpAny_bind (seekA R hx hu (fun hm => ?_) fun K hm hK hb => ?_)
  · exact wpAny_pure (hQ false s.heap L es ep t (Heap.SameBut.refl a s.heap) R (fun _ => rfl) fun z => absurd hm z)
  · dsimp only
    refine wpAny_bind (wpAny_setState_of ho hd R.fits ?_)
    dsimp only
    obtain ⟨q1, q2, q3, q4, q5, -, -, -, q9⟩ := R.tab.put hK hb
    generalize hpt : t.put (way t.mask (hT knd k) K) = pt at q1 q3 q4 q5 q9 ⊢
    obtain ⟨t1, p⟩ := pt
    dsimp only at q1 q3 q4 q5 q9 ⊢
    subst q1
    rw [List.length_map] at q9
    have hin : (SetTable.insertAt es (SetTable.below t.place (way t.mask (hT knd k) K)) (hT knd k, Value.ref x)).toList = ent knd (L.take (SetTable.below t.place (way t.mask (hT knd k) K)) ++ (x, k) :: L.drop (SetTable.below t.place (way t.mask (hT knd k) K))) := by
      rw [SetTable.toList_insertAt, R.rows]
      unfold ent
      rw [List.map_append, List.map_cons, List.map_take, List.map_drop]
    generalize SetTable.below t.place (way t.mask (hT knd k) K) = p at q2 q3 hin ⊢
    have pm : (L.take p ++ (x, k) :: L.drop p).Perm ((x, k) :: L) := put_perm L p (x, k)
    have hlen : (L.take p ++ (x, k) :: L.drop p).length = L.length + 1 := pm.length_eq
    rw [show (L.map fun p => hT knd p.2).take p ++ hT knd k :: (L.map fun p => hT knd p.2).drop p = (L.take p ++ (x, k) :: L.drop p).map fun p => hT knd p.2 by rw [List.map_append, List.map_cons, List.map_take, List.map_drop]] at q3
    have nd1 : ((L.take p ++ (x, k) :: L.drop p).map (·.2)).Nodup := (pm.map (·.2)).nodup_iff.mpr (List.nodup_cons.mpr ⟨hm, R.nd⟩)
    generalize SetTable.insertAt es p (hT knd k, Value.ref x) = es1 at hin ⊢
    generalize L.take p ++ (x, k) :: L.drop p = L1 at pm hlen q3 nd1 hin
    have hes : es1.size = L.length + 1 := (size_of hin).trans hlen
    -- is the hash by value? both ways lead on
    have go : ∀ c : Bool, wpAny (model P w) A (do
        storeSet a es1 (if c = true then t1 else { t1 with plain := false })
        if !false && (if c = true then t1 else { t1 with plain := false }).tooFull then setRelay a (SetTable.grown (es.size + 1))
        return true) Q E s := fun c => by
      have q3 := tab_plain q3 c
      have q4 : (if c = true then t1 else { t1 with plain := false }).mask = t.mask := by cases c <;> exact q4
      have q5 : (if c = true then t1 else { t1 with plain := false }).led = t.led := by cases c <;> exact q5
      have q9 : (if c = true then t1 else { t1 with plain := false }).fill = L.length + 1 := by cases c <;> exact q9
      generalize (if c = true then t1 else { t1 with plain := false }) = t2 at q3 q4 q5 q9 ⊢
      refine wpAny_bind (wpAny_storeSet_of ho hd ?_ (by rw [hes, sizeLine_eq]; omega))
      have sb : Heap.SameBut a s.heap (s.heap.update a (Obj.putSet es1 t2)) := Heap.SameBut.update ..
      have ho1 := store_at (es' := es1) (t' := t2) ho hd
      generalize s.heap.update a (Obj.putSet es1 t2) = h1 at sb ho1 ⊢
      have tup1 : ∀ p ∈ L1, IsTupleKey knd h1 p.2 p.1 := fun p hp => by
        rcases List.mem_cons.mp (pm.mem_iff.mp hp) with e | hp
        · rw [e]; exact tup_same hx ho hd sb
        · exact tup_same (R.tup p hp) ho hd sb
      have ld1 : w.params.followText "set-order" = true ∨ t2.led = true := by rw [q5]; exact R.led
      have hfull : t2.tooFull = decide ((L.length + 1) * 5 ≥ t.mask * 3) := by
        unfold SetTable.tooFull
        rw [q9, q4]
      by_cases hf : t2.tooFull = true
      · have hf2 : (L.length + 1) * 5 ≥ t.mask * 3 := of_decide_eq_true (hfull.symm.trans hf)
        first
          | (refine wpAny_bind ?_; refine wp_if_pos (by simp [hf]) ?_)
          | (refine wp_if_pos (by simp [hf]) ?_; refine wpAny_bind ?_)
        rw [hsl]
        have lay : ∀ M, SetTable.sizeAbove (SetTable.grown (L.length + 1)) - 1 = M → MaskOk M → SetTable.sizeAbove (SetTable.grown (L.length + 1)) ≤ 128 → (L.length + 1) * 5 < M * 3 → L.length + 1 ≤ t.mask →
            wpAny (model P w) A (setRelay a (SetTable.grown (L.length + 1))) (fun _ s' => wpAny (model P w) A (pure true) Q E s') E { s with heap := h1 } := fun M h1' h2' h3' h4' h5' =>
          relay (s := { s with heap := h1 }) ho1 ⟨hex.1, hex.2.1, hex.2.2⟩ rfl hin q3 (by rw [hlen, q4]; exact h5') nd1 tup1 ld1 (by rw [hlen]; exact hfew) h1' h2' h3' (by rw [hlen]; exact h4') fun h2 L2 es2 ep2 t2 sb2 R2 pm2 =>
            wpAny_pure (hQ true h2 L2 es2 ep2 t2 (sb.trans sb2) R2 (fun z => absurd z hm) fun _ => pm2.trans pm)
        rcases R.tab.mok with e | e | e
        · rw [e] at hf2 hroom
          have e2 : L.length = 4 := by omega
          exact lay 31 (by rw [e2, size_20]) (.inr (.inl rfl)) (by rw [e2, size_20]; decide) (by omega) (by rw [e]; omega)
        · rw [e] at hf2 hroom
          have e2 : L.length = 18 := by omega
          exact lay 127 (by rw [e2, size_76]) (.inr (.inr rfl)) (by rw [e2, size_76]; decide) (by omega) (by rw [e]; omega)
        · rw [e] at hf2
          omega
      · first
          | refine wp_if_neg (by simp [hf]) ?_
          | (refine wpAny_bind ?_; refine wp_if_neg (by simp [hf]) ?_; refine wpAny_pure ?_)
        refine wpAny_pure (hQ true h1 L1 es1 (ep + 1) t2 sb ⟨⟨_, ho1, ⟨hex.1, hex.2.1, hex.2.2⟩, rfl⟩, hin, q3, nd1, tup1, ld1, ?_, by rw [hlen]; exact hfew⟩ (fun z => absurd z hm) fun _ => pm)
        have z : ¬ (L.length + 1) * 5 ≥ t.mask * 3 := fun y => hf (hfull.trans (decide_eq_true y))
        rw [hlen, q4]
        omega
    by_cases hpl : t1.plain = true
    · first
        | (refine wpAny_bind ?_; refine wp_if_pos hpl ?_; refine byValT hx fun c => ?_)
        | refine wp_if_pos hpl (wpAny_bind (byValT hx fun c => ?_))
      exact go c
    · first
        | (refine wpAny_bind ?_; refine wp_if_neg hpl ?_; refine wpAny_pure ?_)
        | refine wp_if_neg hpl ?_
      exact go true
end
end GS
end
section
set_option Elab.async false
set_option linter.all false
set_option maxRecDepth 100000
set_option maxHeartbeats 4000000
namespace GS
open PySem PySem.Spec PyProof.Rows L2
section
variable {P : Program} {w : World} {κ : Type} [DecidableEq κ] {knd : KeyKind P w κ} {A : Around} {E : Value → Shared → Prop} {s : Shared}
/-- L has of ks what it needs: its first i, each key once -/
structure Has (ks : List (Addr × List κ)) (i : Nat) (L : List (Addr × List κ)) : Prop where
  sub : ∀ p ∈ L, p ∈ ks.take i
  all : ∀ p ∈ ks.take i, p.2 ∈ L.map (·.2)
  len : L.length ≤ i
theorem Has.next {ks L L' : List (Addr × List κ)} {i : Nat} {x : Addr × List κ} (g : Has ks i L) (h : ks[i]? = some x) (c1 : x.2 ∈ L.map (·.2) → L' = L) (c2 : x.2 ∉ L.map (·.2) → L'.Perm (x :: L)) : Has ks (i + 1) L' := by
  have tk : ks.take (i + 1) = ks.take i ++ [x] := by rw [List.take_add_one, h]; rfl
  by_cases hm : x.2 ∈ L.map (·.2)
  · rw [c1 hm]
    refine ⟨fun p hp => ?_, fun p hp => ?_, Nat.le_succ_of_le g.len⟩
    · rw [tk]; exact List.mem_append_left _ (g.sub p hp)
    · rw [tk] at hp
      rcases List.mem_append.mp hp with z | z
      · exact g.all p z
      · rw [List.mem_singleton.mp z]; exact hm
  · have pm := c2 hm
    refine ⟨fun p hp => ?_, fun p hp => ?_, by rw [pm.length_eq]; exact Nat.succ_le_succ g.len⟩
    · rw [tk]
      rcases List.mem_cons.mp (pm.mem_iff.mp hp) with e | z
      · rw [e]; exact List.mem_append_right _ (List.mem_singleton.mpr rfl)
      · exact List.mem_append_left _ (g.sub p z)
    · rw [(pm.map (·.2)).mem_iff, List.map_cons]
      rw [tk] at hp
      rcases List.mem_append.mp hp with z | z
      · exact List.mem_cons_of_mem _ (g.all p z)
      · rw [List.mem_singleton.mp z]; exact List.mem_cons_self
theorem SetG.keep {h h' : Heap} {a : Addr} {L : List (Addr × List κ)} {es : Array (Int × Value)} {ep : Nat} {t : SetTable} (R : SetG knd h a L es ep t) (ha : ∀ o, h.get? a = some o → h'.get? a = some o) (ht : ∀ p ∈ L, IsTupleKey knd h' p.2 p.1) : SetG knd h' a L es ep t := by
  obtain ⟨o, ho, r⟩ := R.ob
  exact ⟨⟨o, ha o ho, r⟩, R.rows, R.tab, R.nd, ht, R.led, R.room, R.few⟩
theorem fresh {h : Heap} {a : Addr} (ho : h.get? a = some (Dl.set0 (!w.params.followText "set-order"))) : SetG knd h a [] #[] 0 (.fresh 0 0 (!w.params.followText "set-order")) where
  ob := ⟨_, ho, ⟨rfl, rfl, rfl⟩, rfl⟩
  rows := rfl
  tab := ⟨List.Pairwise.nil, rfl, rfl, .inl rfl, fun x hx => (nomatch hx), fun i h j hi => by simp at hi⟩
  nd := List.nodup_nil
  tup := fun p hp => nomatch hp
  led := by
    show _ ∨ (!w.params.followText "set-order") = true
    cases w.params.followText "set-order"
    · exact .inr rfl
    · exact .inl rfl
  room := by show 0 * 5 < 7 * 3; decide
  few := by show 0 < 64; decide
/-- a set of the first i of ks stands at S -/
def At (knd : KeyKind P w κ) (ks : List (Addr × List κ)) (S : Addr) (i : Nat) (h : Heap) : Prop := ∃ L es ep t, SetG knd h S L es ep t ∧ Has ks i L
theorem At.keep {ks : List (Addr × List κ)} {S : Addr} {i : Nat} {h h' : Heap} (z : At knd ks S i h) (ha : ∀ o, h.get? S = some o → h'.get? S = some o) (ht : ∀ p ∈ ks, IsTupleKey knd h' p.2 p.1) : At knd ks S i h' := by
  obtain ⟨L, es, ep, t, R, g⟩ := z
  exact ⟨L, es, ep, t, R.keep ha fun p hp => ht p (List.mem_of_mem_take (g.sub p hp)), g⟩
theorem fillG {I : Addr} {fp wr : List Addr} {G : Array GenState → Array GenState → Prop} {n : Nat} {Pv : Nat → Value → Prop} {St : Nat → Shared → Prop} {R : Result → Shared → Prop}
    (W : WalksS P w A.in1 I fp wr G n Pv St) (S : Addr) (hSf : S ∉ fp) (ks : List (Addr × List κ)) (hn : n = ks.length) (few : ks.length < 64) (hval : ∀ i v, Pv i v → ∃ p, ks[i]? = some p ∧ v = .ref p.1)
    (h0 : Heap) (hk : ∀ h', (∀ b o, h0.get? b = some o → h'.get? b = some o) → ∀ p ∈ ks, IsTupleKey knd h' p.2 p.1) (hS0 : h0.get? S = none) (hw0 : ∀ b ∈ wr, h0.get? b = none) (hu : A.in1.units < cLine) :
    ∀ (k i : Nat) (s : Shared), n - i = k → i ≤ n → St i s → (∀ b o, h0.get? b = some o → s.heap.get? b = some o) → At knd ks S i s.heap →
      (∀ s', Moved (S :: wr) G s s' → At knd ks S n s'.heap → R (.ok (.ret .none)) s') →
      codeAny (model P w) A (.builtin "set.update.loop" ⟨[.ref S, .ref I], []⟩) R s := by
  have hSw : S ∉ wr := fun h => hSf (W.sub _ h)
  have sub1 : ∀ b ∈ wr, b ∈ S :: wr := fun b hb => List.mem_cons_of_mem _ hb
  have keepM : ∀ {s s' : Shared}, Moved wr G s s' → (∀ b o, h0.get? b = some o → s.heap.get? b = some o) → ∀ b o, h0.get? b = some o → s'.heap.get? b = some o := fun hm kp b o e =>
    hm.heap b o (fun hb => by rw [hw0 b hb] at e; cases e) (kp b o e)
  intro k
  induction k with
  | zero =>
    intro i s hk' hi hst kp hS hR
    obtain rfl : i = n := by omega
    refine codeAny_builtin PyProof.Rows.F.entry_set_update_loop ?_
    rw [Around.under_plainId PyProof.Rows.F.plain_set_update_loop _]
    show wpAny _ A.in1 (pyNext (.ref I) >>= _) _ _ s
    exact wpAny_bind (W.done s _ _ hst fun s' hm => (show wpAny _ A.in1 (ret Value.none) _ _ s' from wpAny_pure (hR s' (hm.mono sub1) (hS.keep (fun o e => hm.heap S o hSw e) (hk _ (keepM hm kp))))))
  | succ k ih =>
    intro i s hk' hi hst kp hS hR
    have hlt : i < n := by omega
    refine codeAny_builtin PyProof.Rows.F.entry_set_update_loop ?_
    rw [Around.under_plainId PyProof.Rows.F.plain_set_update_loop _]
    show wpAny _ A.in1 (pyNext (.ref I) >>= _) _ _ s
    refine wpAny_bind (W.item i s _ _ hlt hst fun v s' hP hst' hm => ?_)
    obtain ⟨p, hp, rfl⟩ := hval i v hP
    have kp' := keepM hm kp
    obtain ⟨L, es, ep, t, RS, g⟩ := hS.keep (fun o e => hm.heap S o hSw e) (hk _ kp')
    have hx : IsTupleKey knd s'.heap p.2 p.1 := hk _ kp' p (List.mem_of_getElem? hp)
    show wpAny _ A.in1 (holding [Value.ref p.1] (setAdd S (.ref p.1)) >>= _) _ _ s'
    refine wpAny_bind (wpAny_holding ?_)
    unfold setAdd
    refine wpAny_holding (wpAny_bind (wpAny_pyHash_tuple hu hx ?_))
    refine adds (s := { s' with toks := s'.toks + (p.2.length + 1) }) RS hx hu (by have := g.len; omega) fun b h' L' es' ep' t' hsb hS2 c1 c2 => ?_
    have kp2 : ∀ b o, h0.get? b = some o → h'.get? b = some o := fun b o e => (hsb.2 b (fun z => by rw [z, hS0] at e; cases e)).trans (kp' b o e)
    refine wpAny_pure ⟨plainId_quiet PyProof.Rows.F.plain_set_update_loop _, ih (i + 1) _ (by omega) hlt (W.frame _ s' _ _ hst' (Nat.le_add_right _ _) fun b hb o e => ?_) kp2 ⟨L', es', ep', t', hS2, g.next hp c1 c2⟩ fun s'' hm'' hS'' => ?_⟩
    · rw [hsb.2 b (fun h : b = S => hSf (by rw [← h]; exact hb))]; exact e
    · refine hR s'' (Moved.trans W.gtrans ((hm.mono sub1).then_heap (Nat.le_add_right _ _) fun b o hb e => ?_) hm'') hS''
      rw [hsb.2 b (fun h : b = S => hb (by rw [h]; exact List.mem_cons_self))]; exact e
set_option maxHeartbeats 8000000 in
/-- set(v): as Dl.set_call, and the new table is one whose order may be asked -/
theorem set_callL {v : Value} {T : String} {Pr : Heap → Prop} {Q : Value → Shared → Prop} (tv : ∀ h : Heap, (∀ b o, s.heap.get? b = some o → h.get? b = some o) → (Dl.With s h).TypeIs v T)
    (n1 : isSubtype (.type T) (.type "set") = pure false) (n2 : isSubtype (.type T) (.type "frozenset") = pure false) (n3 : (Value.type T == Value.type "dict") = false)
    (fill : ∀ (E1 : Value → Shared → Prop), wpAny (model P w) A.in1.in1 (pyIter v) (fun it s1 => ∀ R1 : Result → Shared → Prop, (∀ h' tk, Pr h' → (∀ b o, s.heap.get? b = some o → h'.get? b = some o) → R1 (.ok (.ret .none)) { s with heap := h', toks := tk }) →
      codeAny (model P w) A.in1.in1 (.builtin "set.update.loop" ⟨[.ref s.heap.objs.size, it], []⟩) R1 s1) E1 (Dl.With s (s.heap.push (Dl.set0 (!w.params.followText "set-order")))))
    (fin : ∀ (h' : Heap) (tk : Nat), Pr h' → (∀ b o, s.heap.get? b = some o → h'.get? b = some o) →
      Q (.ref s.heap.objs.size) { s with heap := h', toks := tk }) : wpAny (model P w) A (call (.type "set") [v]) Q E s := by
  have ⟨_, _, _⟩ := PySem.F.called_set.mro
  have m1 := PySem.F.called_set.made
  have m2 := PySem.F.called_set.sub
  have m3 := PySem.F.called_set.notType
  have m4 := PySem.F.called_set.canCreate
  have m5 := PySem.F.typeCall_set_1 v
  refine wpAny_call (codeAny_of_tree (show wpAny _ _ (callAny (.type "set") _) _ _ _ from wpAny_pure ⟨Code.quiet_builtin _ (by decide +kernel), codeAny_builtin PySem.F.entry_type_call ?_⟩))
  rw [Around.under_plain (weight_type_call_type "set" [v] []) rfl]
  repeat (any_goals (first | assumption | wp_step))
  refine codeAny_mono (code_set_led1 v (E := E) (Q₁ := fun r s1 => r = .ref s.heap.objs.size ∧ s1 = Dl.With s (s.heap.push (Dl.set0 (!w.params.followText "set-order")))) ⟨rfl, rfl⟩) fun r s1 hr => ?_
  cases r with
  | error e => exact hr
  | ok fl =>
    cases fl with
    | ret r =>
      obtain ⟨rfl, rfl⟩ := hr
      have gS : (s.heap.push (Dl.set0 (!w.params.followText "set-order"))).get? s.heap.objs.size = some (Dl.set0 (!w.params.followText "set-order")) := Heap.get?_push_size _ rfl
      have tS : (Dl.With s (s.heap.push (Dl.set0 (!w.params.followText "set-order")))).TypeIs (.ref s.heap.objs.size) "set" := ⟨_, gS, rfl⟩
      have i1 := PySem.F.called_set.init.lookup
      have i2 := PySem.F.called_set.init.bind (.ref s.heap.objs.size)
      repeat (any_goals (first | assumption | wp_step))
      refine codeAny_mono (codeAny_call_builtin (R := wants (fun r s2 => r = .none ∧ ∃ h' tk, s2 = { s with heap := h', toks := tk } ∧ Pr h' ∧
        ∀ b o, s.heap.get? b = some o → h'.get? b = some o) E) PySem.F.called_set.init.plain PySem.F.entry_set_init (check_set_init_1 tS ?_)) fun r2 s2 hr2 => ?_
      · have kp : ∀ b o, s.heap.get? b = some o → (s.heap.push (Dl.set0 (!w.params.followText "set-order"))).get? b = some o := fun b o e => Heap.get?_push_of_some _ e
        have tv := tv _ kp
        unfold Builtin.«set.__init__» noKeywords Builtin.Frozenset.updateFrom
        generalize hPI : pyIter = PI
        wp_walk
        subst hPI
        refine wpAny_mono (fill _) (fun it s1 h => ?_) fun _ _ h => h
        refine wpAny_bind (wpAny_runValue (h _ fun h' tk hp hk => ?_))
        exact wpAny_pure (wpAny_pure ⟨rfl, h', tk, rfl, hp, hk⟩)
      · cases r2 with
        | error e => exact hr2
        | ok f2 =>
          cases f2 with
          | ret r =>
            obtain ⟨rfl, h', tk, rfl, q1, q2⟩ := hr2
            repeat (any_goals (first | assumption | wp_step))
            exact fin _ _ q1 q2
          | _ => exact hr2.elim
    | _ => exact hr.elim
/-- set(xs), xs a list of tuples -/
theorem set_tups {l : Addr} {items : Array Value} (ks : List (Addr × List κ)) {Q : Value → Shared → Prop} (hh : A.handled = none) (hl : s.heap.IsList l items) (hi : items.toList = ks.map fun p => Value.ref p.1)
    (hk : ∀ p ∈ ks, IsTupleKey knd s.heap p.2 p.1) (few : ks.length < 64) (hu : A.units + 3 < cLine)
    (fin : ∀ (h' : Heap) (tk : Nat), At knd ks s.heap.objs.size ks.length h' → (∀ b o, s.heap.get? b = some o → h'.get? b = some o) → Q (.ref s.heap.objs.size) { s with heap := h', toks := tk }) :
    wpAny (model P w) A (call (.type "set") [.ref l]) Q E s := by
  have hz : items.size = ks.length := by rw [← Array.length_toList, hi, List.length_map]
  refine set_callL (T := "list") (fun h k => let ⟨o, e, c, _⟩ := hl; ⟨o, k _ _ e, c⟩) PySem.F.sub_list_set PySem.F.sub_list_frozenset (by decide) (fun E1 => ?_) fin
  generalize hled : (!w.params.followText "set-order") = led
  have hl1 : (s.heap.push (Dl.set0 led)).IsList l items := hl.push _
  have ll : l < s.heap.objs.size := let ⟨o, e, _⟩ := hl; Heap.lt_size e
  have z1 : (s.heap.push (Dl.set0 led)).objs.size = s.heap.objs.size + 1 := Heap.size_push ..
  have n1 : l ≠ (s.heap.push (Dl.set0 led)).objs.size := by rw [z1]; exact Nat.ne_of_lt (Nat.lt_succ_of_lt ll)
  have n2 : s.heap.objs.size ∉ [(s.heap.push (Dl.set0 led)).objs.size, l] := by
    rw [z1, List.mem_cons, List.mem_singleton, not_or]
    exact ⟨Nat.ne_of_lt (Nat.lt_succ_self _), Nat.ne_of_gt ll⟩
  have none_of : ∀ b, s.heap.objs.size ≤ b → s.heap.get? b = none := fun b hb => by
    cases q : s.heap.get? b with
    | none => rfl
    | some o => exact absurd (Nat.lt_of_lt_of_le (Heap.lt_size q) hb) (Nat.lt_irrefl _)
  refine wpAny_pyIter_list hl1 fun R1 hR => ?_
  refine fillG (knd := knd) (A := A.in1.in1) ((Walks.list (show A.in1.in1.in1.handled = none by simp [hh]) _ l n1 items).toS) s.heap.objs.size n2 ks hz few (fun i v hv => ?_) s.heap (fun h' kp p hp => tup_keep (hk p hp) kp) (none_of _ (Nat.le_refl _))
    (fun b hb => none_of b (by rw [List.mem_singleton.mp hb, z1]; exact Nat.le_succ _)) (by simpa using hu) items.size 0 _ (by omega) (Nat.zero_le _) ⟨⟨_, Heap.get?_push_size _ rfl, rfl, rfl⟩, hl1.push _⟩
    (fun b o e => Heap.get?_push_of_some _ (Heap.get?_push_of_some _ e)) ⟨[], #[], 0, _, fresh (by rw [hled]; exact Dl.get2_push), ⟨fun p hp => (nomatch hp), fun p hp => by simp at hp, Nat.le_refl _⟩⟩ fun s1 hm hS => ?_
  · have q : items.toList[i]? = some v := by rw [Array.getElem?_toList]; exact hv
    rw [hi, List.getElem?_map] at q
    cases hq : ks[i]? with
    | none => rw [hq] at q; cases q
    | some p =>
      rw [hq] at q
      exact ⟨p, rfl, (Option.some.inj q).symm⟩
  · rw [hz] at hS
    obtain ⟨h', g', d', tk', os'⟩ := s1
    cases (show g' = s.gens from hm.gens)
    cases (show d' = s.drawn from hm.drawn)
    cases (show os' = s.os from hm.os)
    refine hR h' tk' hS fun b u e => hm.heap b u (fun hb => ?_) (Heap.get?_push_of_some _ (Heap.get?_push_of_some _ e))
    have lt := Heap.lt_size e
    rcases List.mem_cons.mp hb with z | z
    · rw [z] at lt; exact Nat.lt_irrefl _ lt
    · rw [List.mem_singleton.mp z, z1] at lt; exact absurd lt (Nat.not_lt.mpr (Nat.le_succ _))
end
end GS
end
section
set_option Elab.async false
set_option linter.all false
set_option maxRecDepth 100000
set_option maxHeartbeats 4000000
namespace GS
open PySem PySem.Spec PyProof.Rows L2
/-- the order of rows of texts -/
def keyT (x : List Str) : List (List Nat) := x.map fun z => z.cps.toList
def ltT (x y : List Str) : Bool := decide (keyT x < keyT y)
theorem key_inj {x y : Str} (h : x.cps.toList = y.cps.toList) : x = y := by
  cases x; cases y
  congr 1
  exact Array.toList_inj.mp h
theorem keyT_inj : ∀ {x y : List Str}, keyT x = keyT y → x = y
  | [], [], _ => rfl
  | [], _ :: _, h => nomatch h
  | _ :: _, [], h => nomatch h
  | a :: x, b :: y, h => by
    have h1 : a.cps.toList = b.cps.toList := (List.cons.inj h).1
    rw [key_inj h1, keyT_inj (List.cons.inj h).2]
theorem swoT {α : Type} (k : α → List Str) : SrtO.Swo fun v u => ltT (k v) (k u) := by
  refine ⟨fun x y h => ?_, fun x y z h1 h2 => ?_⟩
  · exact decide_eq_false fun h' => List.lt_asymm (of_decide_eq_true h) h'
  · have a := of_decide_eq_false h1
    have b := of_decide_eq_false h2
    refine decide_eq_false ?_
    have a := List.not_lt.mp a
    have b := List.not_lt.mp b
    exact List.not_lt.mpr (List.le_trans (by first | exact a | exact b) (by first | exact b | exact a))
theorem ltT_total {x y : List Str} (h1 : ltT x y = false) (h2 : ltT y x = false) : x = y :=
  keyT_inj (List.le_antisymm (List.not_lt.mp (of_decide_eq_false h2)) (List.not_lt.mp (of_decide_eq_false h1)))
theorem ltT_nil (y : Str) (ys : List Str) : ltT [] (y :: ys) = true := decide_eq_true (List.nil_lt_cons _ _)
theorem ltT_nil2 (x : List Str) : ltT x [] = false := decide_eq_false (List.not_lt_nil _)
theorem ltT_cons (x y : Str) (xs ys : List Str) : ltT (x :: xs) (y :: ys) = if x = y then ltT xs ys else decide (x.cps.toList < y.cps.toList) := by
  by_cases e : x = y
  · subst e
    rw [if_pos rfl]
    exact decide_eq_decide.mpr ⟨fun h => by
      rcases List.cons_lt_cons_iff.mp h with z | z
      · exact absurd z (List.lt_irrefl _)
      · exact z.2, fun h => List.cons_lt_cons_iff.mpr (.inr ⟨rfl, h⟩)⟩
  · rw [if_neg e]
    exact decide_eq_decide.mpr ⟨fun h => by
      rcases List.cons_lt_cons_iff.mp h with z | z
      · exact z
      · exact absurd (key_inj z.1) e, fun h => List.cons_lt_cons_iff.mpr (.inl h)⟩
section
variable {P : Program} {w : World} {A : Around} {E : Value → Shared → Prop} {s : Shared}
theorem one_str (c : Bool) {p q : Str} {t u : Tok} {Q : Bool → Shared → Prop} (h : Q (decide (p.cps.toList < q.cps.toList)) s) : wpAny (model P w) A (oneLt' c (.str p t) (.str q u)) Q E s := by
  cases c with
  | true =>
    rw [oneLt'_eq]
    simp only [if_true]
    refine wpAny_bind (wpAny_cRoomFor_byValue rfl ?_)
    refine wpAny_bind (wpAny_callSpecialIfBound?_slot (typeIs_str s p t) slot_str_lt ?_)
    refine wpAny_call_entry slot_str_lt (typeIs_str s p t) entry_str_lt (show wpAny _ _ (ret (.bool (p.cps.toList < q.cps.toList))) _ _ s from wpAny_pure ⟨_, rfl, ?_⟩) (args_str_lt _ _)
    exact wpAny_truthy_bool h
  | false => exact PySem.W.kat_one _ _ (lt_str (Q := PySem.W.BoolBack Q) h)
theorem lexStrs {b : Bool} {Q : Bool → Shared → Prop} : ∀ {xs ys : List Value} {ns ms : List Str} (i : Nat), ItemsAre (PySem.strKind P w) ns xs → ItemsAre (PySem.strKind P w) ms ys → Q (ltT ns ms) s →
    PySem.W.KatLex P w A b (decide (xs.length < ys.length)) Q (xs.zip ys) i s := by
  have key : ∀ (xs ys : List Value) (ns ms : List Str) (i : Nat) (fin : Bool), ItemsAre (PySem.strKind P w) ns xs → ItemsAre (PySem.strKind P w) ms ys → fin = decide (xs.length < ys.length) → Q (ltT ns ms) s → PySem.W.KatLex P w A b fin Q (xs.zip ys) i s := by
    intro xs
    induction xs with
    | nil =>
      intro ys ns ms i fin hx hy hf h
      cases hx
      subst hf
      cases hy with
      | nil => rw [ltT_nil2] at h; exact PySem.W.kat_nil h
      | cons _ _ => rw [ltT_nil] at h; exact PySem.W.kat_nil h
    | cons x xs ih =>
      intro ys ns ms i fin hx hy hf h
      cases hx with
      | @cons k _ ks _ hk hks =>
        cases hy with
        | nil => rw [ltT_nil2] at h; subst hf; exact PySem.W.kat_nil h
        | @cons m y ms ys hm hms =>
          obtain ⟨t, rfl⟩ := Value.isStrOf_shape hk
          obtain ⟨u, rfl⟩ := Value.isStrOf_shape hm
          show PySem.W.KatLex P w A b fin Q ((Value.str k t, Value.str m u) :: xs.zip ys) i s
          refine PySem.W.kat_cons ((PySem.strKind P w).eqBool hk hm ?_)
          rw [ltT_cons] at h
          by_cases e : k = m
          · rw [if_pos e] at h
            rw [decide_eq_true e]
            exact PySem.W.kat_yes (ih ys ks ms (i + 1) fin hks hms (hf.trans (by simp)) h)
          · rw [if_neg e] at h
            rw [decide_eq_false e]
            exact PySem.W.kat_no (one_str _ h)
  exact fun {xs ys ns ms} i hx hy h => key xs ys ns ms i _ hx hy rfl h
end
end GS
end
section
set_option Elab.async false
set_option linter.all false
set_option maxRecDepth 100000
set_option maxHeartbeats 4000000
namespace GS
open PySem PySem.Spec PyProof.Rows L2
section
variable {P : Program} {w : World} {A : Around} {E : Value → Shared → Prop} {s : Shared}
abbrev IsR (P : Program) (w : World) (h : Heap) (k : List Str) (b : Addr) : Prop := IsTupleKey (PySem.strKind P w) h k b
open Classical in
/-- the texts of the tuple that v names -/
noncomputable def keyAt (P : Program) (w : World) (h : Heap) (v : Value) : List Str := if z : ∃ k b, v = .ref b ∧ IsR P w h k b then z.choose else []
theorem keyAt_eq {h : Heap} {k : List Str} {b : Addr} (x : IsR P w h k b) : keyAt P w h (.ref b) = k := by
  unfold keyAt
  have z : ∃ k b', Value.ref b = .ref b' ∧ IsR P w h k b' := ⟨k, b, rfl, x⟩
  rw [dif_pos z]
  obtain ⟨b', e, y⟩ := z.choose_spec
  cases e
  exact y.inj x
def adr : Value → Addr
  | .ref b => b
  | _ => 0
theorem tell {h : Heap} {L : List (Addr × List Str)} {vs out : List Value} (tup : ∀ p ∈ L, IsR P w h p.2 p.1) (h1 : out.Perm vs) (h2 : vs.Perm (L.map fun p => Value.ref p.1)) (hs : SrtO.Srtd (fun v u => ltT (keyAt P w h v) (keyAt P w h u)) out) :
    ∃ L' : List (Addr × List Str), out = L'.map (fun p => Value.ref p.1) ∧ L'.Perm L ∧ SrtO.Srtd ltT (L'.map (·.2)) := by
  have hm : ∀ v ∈ out, ∃ p ∈ L, v = .ref p.1 := fun v hv => by
    obtain ⟨p, hp, e⟩ := List.mem_map.mp ((h1.trans h2).mem_iff.mp hv)
    exact ⟨p, hp, e.symm⟩
  refine ⟨out.map fun v => (adr v, keyAt P w h v), ?_, ?_, ?_⟩
  · rw [List.map_map]
    refine ((List.map_congr_left fun v hv => ?_).trans (List.map_id _)).symm
    obtain ⟨p, _, rfl⟩ := hm v hv
    rfl
  · have z := (h1.trans h2).map fun v => (adr v, keyAt P w h v)
    rw [List.map_map] at z
    have e : L.map ((fun v => (adr v, keyAt P w h v)) ∘ fun p => Value.ref p.1) = L := (List.map_congr_left fun p hp => by
      show (p.1, keyAt P w h (.ref p.1)) = p
      rw [keyAt_eq (tup p hp)]).trans (List.map_id _)
    rw [e] at z
    exact z
  · rw [List.map_map]
    exact SrtO.srtd_map hs
theorem firsts {h : Heap} : ∀ {vs : List Value}, (∀ v ∈ vs, ∃ b k, v = .ref b ∧ IsR P w h k b ∧ k ≠ []) → ∃ fs : List Value, PySem.W.KatTups h vs fs ∧ fs.length = vs.length ∧ ∀ f ∈ fs, ∃ x t, f = Value.str x t
  | [], _ => ⟨[], PySem.W.KatTups.nil, rfl, fun f hf => (nomatch hf)⟩
  | v :: vs, hv => by
    obtain ⟨fs, h1, h2, h3⟩ := firsts fun u hu => hv u (List.mem_cons_of_mem _ hu)
    obtain ⟨b, k, rfl, ⟨o, its, n, ho, hc, hd, hi⟩, hk⟩ := hv v List.mem_cons_self
    obtain ⟨x, t, r, e⟩ : ∃ x t r, its.toList = Value.str x t :: r := by
      generalize its.toList = l at hi
      cases hi with
      | nil => exact absurd rfl hk
      | cons hx _ =>
        obtain ⟨t, rfl⟩ := Value.isStrOf_shape hx
        exact ⟨_, t, _, rfl⟩
    refine ⟨.str x t :: fs, PySem.W.KatTups.cons ho hc hd ?_ h1, by rw [List.length_cons, List.length_cons, h2], fun f hf => ?_⟩
    · rw [← Array.getElem?_toList, e]; rfl
    · rcases List.mem_cons.mp hf with e | hf
      · exact ⟨x, t, e⟩
      · exact h3 f hf
theorem keepR {h h' : Heap} {k : List Str} {b a : Addr} (x : IsR P w h k b) (ha : ∀ o, h.get? a = some o → o.cls ≠ .type "tuple") (keep : ∀ b o, b ≠ a → h.get? b = some o → h'.get? b = some o) : IsR P w h' k b := by
  obtain ⟨o, its, n, ho, hc, r⟩ := x
  exact ⟨o, its, n, keep b o (fun e => ha o (by rw [← e]; exact ho) hc) ho, hc, r⟩
theorem sortable {a : Addr} {vs : List Value} {k : Value → List Str} (h0 : 0 < vs.length) (hp : ∀ v ∈ vs, ∃ b, v = .ref b ∧ IsR P w s.heap (k v) b ∧ k v ≠ []) (ha : ∀ o, s.heap.get? a = some o → o.cls ≠ .type "tuple") :
    SrtO.SortableO P w A s a vs fun v u => ltT (k v) (k u) := by
  intro h' keep
  have hp' : ∀ v ∈ vs, ∃ b, v = .ref b ∧ IsR P w h' (k v) b ∧ k v ≠ [] := fun v hm => by
    obtain ⟨b, e, x, y⟩ := hp v hm
    exact ⟨b, e, keepR x ha keep, y⟩
  obtain ⟨fs, h1, h2, h3⟩ := firsts (P := P) (w := w) (h := h') fun v hm => by
    obtain ⟨b, e, x, y⟩ := hp' v hm
    exact ⟨b, _, e, x, y⟩
  refine ⟨tuples' true, fun Q E hq => ?_, fun p q hm hm' => ?_⟩
  · refine PySem.W.kat_kind (T := .type "str") h1 (by omega) (fun f hm => ?_) (by rfl) ?_
    · obtain ⟨x, t, rfl⟩ := h3 f hm
      exact PySem.W.Looks.now
    · rw [show (Value.type "str" != Value.type "tuple") = true by first | decide +kernel | rfl | decide]
      exact hq
  · obtain ⟨b, e, ⟨o, its, n, ho, hc, hd, hi⟩, -⟩ := hp' _ hm
    obtain ⟨b2, e2, ⟨o2, its2, n2, ho2, hc2, hd2, hi2⟩, -⟩ := hp' _ hm'
    show wpAny (model P w) A (keyLt' (tuples' true) p.1 q.1) (fun r s' => s' = _ ∧ r = ltT (k p.1) (k q.1)) (fun _ _ => False) _
    generalize k p.1 = kp at hi ⊢
    generalize k q.1 = kq at hi2 ⊢
    rw [e, e2]
    refine PySem.W.kat_lt ho hd ho2 hd2 ?_
    exact lexStrs (s := { s with heap := h' }) (Q := fun r s' => s' = _ ∧ r = ltT kp kq) 0 hi hi2 ⟨rfl, rfl⟩
/-- sorted(xs), xs a list of rows of texts -/
theorem sorted_list {l : Addr} {L : List (Addr × List Str)} {its : Array Value} {Q : Value → Shared → Prop} (hl : s.heap.IsList l its) (hi : its.toList = L.map fun p => Value.ref p.1) (hz : L.length ≤ sizeLine) (tup : ∀ p ∈ L, IsR P w s.heap p.2 p.1 ∧ p.2 ≠ [])
    (h : ∀ (h' : Heap) (d : Addr) (L' : List (Addr × List Str)), L'.Perm L → SrtO.Srtd ltT (L'.map (·.2)) → (∀ b o, s.heap.get? b = some o → h'.get? b = some o) → s.heap.objs.size ≤ d → (∃ n, h'.get? d = some (seqObj "list" (L'.map fun p => Value.ref p.1).toArray n)) → Q (.ref d) { s with heap := h' }) :
    wpAny (model P w) A (call (.builtin "sorted") [.ref l]) Q E s := by
  have hv : ∀ v ∈ L.map (fun p => Value.ref p.1), ∃ b, v = .ref b ∧ IsR P w s.heap (keyAt P w s.heap v) b ∧ keyAt P w s.heap v ≠ [] := fun v hv => by
    obtain ⟨p, hp, rfl⟩ := List.mem_map.mp hv
    rw [keyAt_eq (tup p hp).1]
    exact ⟨p.1, rfl, tup p hp⟩
  have el : its = (L.map fun p => Value.ref p.1).toArray := by rw [← hi, Array.toArray_toList]
  rw [el] at hl
  refine SrtO.sorted_ord (swoT (keyAt P w s.heap)) hl (by rw [List.length_map]; exact hz) (fun h2 h₁ a ha kk => ?_) fun out hs hb => ?_
  · refine sortable (s := { s with heap := h₁ }) (by omega) (fun v hm => ?_) fun o e c => ?_
    · obtain ⟨b, e, x, y⟩ := hv v hm
      exact ⟨b, e, tup_keep x fun c o z => (kk c o z).2, y⟩
    · rw [ha] at e
      cases e
      exact absurd (Value.type.inj c) (by decide)
  · obtain ⟨L', e, pm, so⟩ := tell (fun p hp => (tup p hp).1) hb.perm (List.Perm.refl _) hs
    subst e
    exact h _ _ L' pm so (fun b o e => sortedAll_old e) (Nat.le_succ _) (sortedAll_at s.heap _ _)
/-- sorted(a), a a set of rows of texts -/
theorem sorted_set {a : Addr} {ks : List (Addr × List Str)} {n : Nat} {Q : Value → Shared → Prop} (z : At (PySem.strKind P w) ks a n s.heap) (hn : n = ks.length) (hh : A.handled = none) (hne : ∀ p ∈ ks, p.2 ≠ [])
    (hQ : ∀ s' p (L' : List (Addr × List Str)) (c : Nat), (∀ b o, s.heap.get? b = some o → s'.heap.get? b = some o) → s'.gens = s.gens → s'.os = s.os → s.heap.objs.size ≤ p →
      s'.heap.get? p = some (seqObj "list" (L'.map fun q => Value.ref q.1).toArray c) → (∀ q ∈ L', q ∈ ks) → (∀ q ∈ ks, q.2 ∈ L'.map (·.2)) → (L'.map (·.2)).Nodup → SrtO.Srtd ltT (L'.map (·.2)) → Q (.ref p) s') :
    wpAny (model P w) A (call (.builtin "sorted") [.ref a]) Q E s := by
  obtain ⟨L, es, ep, t, R, g⟩ := z
  obtain ⟨o, ho, hex, hd⟩ := R.ob
  have hsz := size_of R.rows
  have hfew := R.few
  have sub : ∀ p ∈ L, p ∈ ks := fun p hp => List.mem_of_mem_take (g.sub p hp)
  refine Calls.call_function_entry kind_sorted plain_sorted entry_sorted (args_sorted1 _) ?_
  unfold Builtin.«sorted»
  refine wpAny_bind (m := checkCount "sorted" 1 1 _) (wpAny_pure ?_)
  refine wpAny_bind (collect_set (A := A.in1) hh ⟨o, ho, hex.1, hd⟩ R.fits (by unfold scanBound; omega) R.tab.ris R.led fun s1 vs k1 hz g1 o1 pm => ?_)
  have hes : es.toList.map (·.2) = L.map fun q => Value.ref q.1 := by
    rw [R.rows]
    unfold ent
    rw [List.map_map]; rfl
  rw [hes] at pm
  have hvl : vs.length < 64 := by rw [pm.length_eq, List.length_map]; exact hfew
  refine wpAny_bind (wpAny_newList ?_ (by rw [sizeLine_eq]; omega))
  have hoL : (s1.heap.push (seqObj "list" vs.toArray 0)).get? s1.heap.objs.size = some (seqObj "list" vs.toArray 0) := Heap.get?_push_size _ rfl
  have tk : ∀ q ∈ L, IsR P w (s1.heap.push (seqObj "list" vs.toArray 0)) q.2 q.1 := fun q hq => tup_keep (R.tup q hq) fun b u e => Heap.get?_push_of_some _ (k1 b u e)
  have hv : ∀ v ∈ vs, ∃ b, v = .ref b ∧ IsR P w (s1.heap.push (seqObj "list" vs.toArray 0)) (keyAt P w (s1.heap.push (seqObj "list" vs.toArray 0)) v) b ∧ keyAt P w (s1.heap.push (seqObj "list" vs.toArray 0)) v ≠ [] := fun v hv => by
    obtain ⟨p, hp, rfl⟩ := List.mem_map.mp (pm.mem_iff.mp hv)
    rw [keyAt_eq (tk p hp)]
    exact ⟨p.1, rfl, tk p hp, hne p (sub p hp)⟩
  refine wpAny_bind (wpAny_holding (wpAny_call_entry slot_list_sort ⟨_, hoL, rfl⟩ entry_list_sort (SrtO.list_sort_ord (s := { s1 with heap := s1.heap.push (seqObj "list" vs.toArray 0) }) (swoT (keyAt P w (s1.heap.push (seqObj "list" vs.toArray 0)))) hoL (by rw [sizeLine_eq]; omega)
    (fun h2 => sortable (s := { s1 with heap := s1.heap.push (seqObj "list" vs.toArray 0) }) (by omega) hv fun o e c => ?_) fun out hs hb => ⟨_, rfl, ?_⟩) (args_list_sort _)))
  · rw [hoL] at e
    cases e
    exact absurd (Value.type.inj c) (by decide)
  · obtain ⟨L', e', pL, so⟩ := tell tk hb.perm pm hs
    subst e'
    obtain ⟨c, hc⟩ := sortedHeap_at (vs := vs) (out := (L'.map fun q => Value.ref q.1).toArray) hoL
    refine wpAny_pure ⟨_, rfl, hQ _ s1.heap.objs.size L' c (fun b u e => ?_) g1 o1 hz hc (fun q hq => sub q (pL.mem_iff.mp hq)) (fun q hq => ?_) ((pL.map (·.2)).nodup_iff.mpr R.nd) so⟩
    · have q := k1 b u e
      have hlt := Heap.lt_size q
      show (sortedHeap (s1.heap.push (seqObj "list" vs.toArray 0)) s1.heap.objs.size vs _).get? b = some u
      rw [sortedHeap_old (Nat.ne_of_lt hlt) (by rw [size_push']; exact Nat.lt_succ_of_lt hlt)]
      exact Heap.get?_push_of_some _ q
    · rw [(pL.map (·.2)).mem_iff]
      exact g.all q (by rw [hn, List.take_length]; exact hq)
end
end GS
end
section
set_option Elab.async false
set_option linter.all false
set_option maxRecDepth 100000
set_option maxHeartbeats 4000000
namespace Dl
open PySem PySem.Spec PyProof.Rows L2 StX RZ
/-! zip of two tuples -/
def zipL (ds es : List D) : List D := List.zipWith (fun x y => D.ktp [x, y]) ds es
theorem yl_zipT {K : Kx} {c : Option Addr} {I : Hp} {a b : Addr} {xs ys : List V} {ds es : List D} (h1 : SqT K I a xs) (r1 : RepL K c I xs ds) (h2 : SqT K I b ys) (r2 : RepL K c I ys es) : Yl K c (ItzT K a b) I (zipL ds es) := fun I2 H2 sb s => by
  have q1 : SqT K H2 a xs := s.sqT (sb_sqT sb h1)
  have q2 : SqT K H2 b ys := s.sqT (sb_sqT sb h2)
  refine ⟨fun i d e => ?_, ⟨xs, ys, q1, q2, ?_⟩⟩
  · unfold zipL at e
    obtain ⟨x, hx, y, hy, rfl⟩ : ∃ x, ds[i]? = some x ∧ ∃ y, es[i]? = some y ∧ d = D.ktp [x, y] := by
      rw [List.getElem?_zipWith] at e
      cases hx : ds[i]? with
      | none => rw [hx] at e; cases e
      | some x =>
        cases hy : es[i]? with
        | none => rw [hx, hy] at e; cases e
        | some y => rw [hx, hy] at e; cases e; exact ⟨x, rfl, y, rfl, rfl⟩
    obtain ⟨v, hv, rv⟩ := r1.get hx
    obtain ⟨u, hu, ru⟩ := r2.get hy
    refine ⟨⟨xs, ys, v, u, q1, q2, hv, hu⟩, fun z H3 hz => ?_⟩
    obtain ⟨T, x', y', rfl, hT, rfl, e1, e2⟩ := hz
    have e1 := e1 xs q1
    have e2 := e2 ys q2
    rw [hv] at e1
    rw [hu] at e2
    cases e1
    cases e2
    have g := Gr.new (o := .tup [v, u]) s hT
    exact ⟨_, g, .ktp (.of upd_same) (.cons ((rv.mono sb).mono g.s1) (.one ((ru.mono sb).mono g.s1)))⟩
  · unfold zipL
    rw [List.length_zipWith, r1.length, r2.length]
    omega
def dZipT (ax : Da) : Da := fun ρ s => (ax ρ s).bind fun p => match p.1 with
  | [d, e] => d.asT.bind fun xs => e.asT.map fun ys => (zipL xs ys, p.2)
  | _ => none
theorem si_zipT {K : Kx} {tx : TA} {ax : Da} (h1 : SndA K tx ax) : SndI K (iZipA K tx) (dZipT ax) := fun c I H σ ρ s xs s' e h R q => by
  obtain ⟨⟨x, s1⟩, h2, h⟩ := bind_some_of h
  refine h1 _ _ _ _ _ _ _ _ e h2 _ fun v I1 H1 g1 w1 r1 => ?_
  split at h
  · rename_i d f hd
    have hd : x = [d, f] := hd
    subst hd
    obtain ⟨ds, h3, h⟩ := bind_some_of h
    obtain ⟨es, h4, h⟩ := map_some_of h
    cases h
    cases r1 with
    | cons ra r => cases r with
      | cons rb r =>
        cases r
        obtain ⟨a, vs, rfl, ha, rv⟩ := ra.asT h3
        obtain ⟨b, us, rfl, hb, ru⟩ := rb.asT h4
        exact ⟨a, b, vs, us, rfl, .inr ⟨g1.s2.sqT ha, g1.s2.sqT hb, q _ I1 H1 g1 w1 (yl_zipT ha rv hb ru)⟩⟩
  · cases h
theorem ei_zipT {X : Cx} {e e2 : Expr} {tx : TA} {ax : Da} {p pos tpos : Pos} {elts : List Expr} {kk : Nat} (hg : Gl X "zip") (hm : X.mg "zip" = none) (ha : EA X [e, e2] tx ax) (hs : starEach [e, e2] X.env = (false, eval e X.env) :: starEach [e2] X.env := by rfl) (hpl : (backTo pos (starEach [e2] X.env)).any (fun z => z.1) = false := by rfl) :
    EI X (.Tuple elts kk tpos) (.Call (.Name "zip" p) [e, e2] [] pos) (iZipA X.kx tx) (dZipT ax) := ⟨pi_zipA hg hm ha.p hs hpl, si_zipT ha.s⟩
end Dl
end
section
set_option Elab.async false
set_option linter.all false
set_option maxRecDepth 100000
set_option maxHeartbeats 4000000
namespace Dl
open PySem PySem.Spec PyProof.Rows L2 StX
/-! a comprehension of two fors -/
def fgS : Sl → Sl
  | .ow _ => .un
  | x => x
/-- what is owned is left out -/
def forget (ρ : List Sl) : List Sl := ρ.map fgS
section
variable {K : Kx} {c : Option Addr} {I H I' H' : Hp} {s s' : Tau}
theorem SlL.fgt (sb : Sb I I') : ∀ {σ : L2.St} {ρ : List Sl}, SlL K c I H σ ρ → SlL K c I' H' σ (forget ρ)
  | _, _, .nil => .nil
  | _, _, .cons (.un o) r => .cons (.un o) (SlL.fgt sb r)
  | _, _, .cons (.im a) r => .cons (.im (a.mono sb)) (SlL.fgt sb r)
  | _, _, .cons (.ow a) r => .cons (.un _) (SlL.fgt sb r)
theorem fgt_im {ρ : List Sl} {i : Nat} {d : D} (h : (forget ρ)[i]? = some (Sl.ow d)) : False := by
  unfold forget at h
  rw [List.getElem?_map] at h
  obtain ⟨x, _, hx⟩ := map_some_of h
  cases x <;> cases hx
theorem Ec.fgt {σ : L2.St} {ρ : List Sl} (e : Ec K c I H σ ρ s) (sb : Sb I I') (s2 : Sub I' H') (w : DW K c s' I' H') : Ec K c I' H' σ (forget ρ) s' :=
  ⟨s2, w, e.sl.fgt sb, fun i j p d e _ _ _ h _ => fgt_im h⟩
end
def lc2Go (g : Dg) (di1 : Da) (g1 : Dg) (de : Dn) (vs1 : List Nat) (ρ : List Sl) : List D → Tau → Option (List D × Tau)
  | [], s => some ([], s)
  | x :: xs, s => (g x ρ).bind fun ρ1 => (di1 ρ1 s).bind fun p => (lcGo g1 dYes de (wipeD (forget ρ1) vs1) p.1 p.2).bind fun r => (lc2Go g di1 g1 de vs1 ρ xs r.2).map fun t => (r.1 ++ t.1, t.2)
def dLc2 (di : Da) (g : Dg) (di1 : Da) (g1 : Dg) (de : Dn) (vs vs1 : List Nat) : Dn := fun ρ s => (di ρ s).bind fun p => (lc2Go g di1 g1 de vs1 (wipeD (forget ρ) vs) p.1 p.2).bind fun r => if r.1.length ≤ 1000000 then some (.lst r.1, r.2) else none
theorem sn_lc2 {K : Kx} {wi wi1 : TI} {di di1 : Da} {g g1 : TG} {dg dg1 : Dg} {js js1 vs vs1 : List Nat} {te : TE} {de : Dn} (hi : SndI K wi di) (hg : SndG K g dg js) (hj : ∀ k ∈ js, k ∈ vs) (hi1 : SndI K wi1 di1) (hg1 : SndG K g1 dg1 js1) (hj1 : ∀ k ∈ js1, k ∈ vs1) (he : SndE K te de) :
    SndE K (tLc2 wi g tYes wi1 g1 tYes te vs vs1) (dLc2 di dg di1 dg1 de vs vs1) := fun c I H σ ρ s d s' e h Q q => by
  obtain ⟨⟨xs, s1⟩, h1, h⟩ := bind_some_of h
  obtain ⟨⟨ys, s2⟩, h2, h⟩ := bind_some_of h
  split at h
  · rename_i hlen
    have hlen : ys.length ≤ 1000000 := hlen
    cases h
    refine hi _ _ _ _ _ _ _ _ e h1 _ fun J I1 H1 ga w1 yl => fun Dd hD => ?_
    have cD : c ≠ some Dd := fun z => by
      obtain ⟨_, sc, z2, _⟩ := w1 Dd z
      rw [hD] at z2; cases z2
    have hI := ga.s2.free hD
    have fr : ∀ {acc : List V} {Ia Ha Ib Hb : Hp}, Gr c Ia Ha Ib Hb → Ia Dd = none → Ha Dd = some (.lst acc) → Ib Dd = none ∧ Hb Dd = some (.lst acc) := fun {acc Ia Ha Ib Hb} gg z1 z2 => by
      refine ⟨?_, gg.kp _ _ cD z2⟩
      cases qq : Ib Dd with
      | none => rfl
      | some o =>
        rcases gg.nw Dd (by rw [qq]; simp) with z | z
        · exact absurd z1 z
        · rw [z2] at z; cases z
    refine ⟨fun i m H' => m = xs.length - i ∧ i ≤ xs.length ∧ ∃ I' acc pre rest s3, (Gr c I1 H1 I' H' ∧ I' Dd = none ∧ DW K c s3 I' H' ∧ H' Dd = some (.lst acc) ∧ RepL K c I' acc pre) ∧ lc2Go dg di1 dg1 de vs1 (wipeD (forget ρ) vs) (xs.drop i) s3 = some (rest, s2) ∧ pre ++ rest = ys, ?_, ?_⟩
    · have sx : Sub I1 (upd H1 Dd (.lst [])) := fun a o z => by
        rw [upd_ne (ne_of_none z hI)]
        exact ga.s2 a o z
      refine ⟨xs.length, by simp, Nat.zero_le _, I1, [], [], ys, s1, ⟨⟨.refl _, sx, fun a o _ z => by rw [upd_ne (ne_of_none z hD)]; exact z, fun a z => .inl z⟩, hI, fun r hr => ?_, upd_same, .nil⟩, by simpa using h2, rfl⟩
      obtain ⟨z1, sc, z2, z3⟩ := w1 r hr
      exact ⟨z1, sc, by rw [upd_ne (ne_of_none z2 hD)]; exact z2, z3⟩
    · rintro i m H' ⟨rfl, hle, I', acc, pre, rest, s3, ⟨g', hID, w', hDl, racc⟩, hgo, hy⟩
      obtain ⟨y1, y2⟩ := yl I' H' g'.s1 g'.s2
      by_cases hlt : i < xs.length
      · obtain ⟨go, yld⟩ := y1 i xs[i] (List.getElem?_eq_getElem hlt)
        rw [List.drop_eq_getElem_cons hlt] at hgo
        obtain ⟨ρ1, hx, hgo⟩ := bind_some_of hgo
        obtain ⟨⟨zs, s4⟩, hz, hgo⟩ := bind_some_of hgo
        obtain ⟨⟨r1, s5⟩, hr, hgo⟩ := bind_some_of hgo
        obtain ⟨⟨rest', s6⟩, hgo2, hq⟩ := map_some_of hgo
        cases hq
        refine .inr ⟨go, fun H'' => ∃ I'' acc pre s3, (Gr c I1 H1 I'' H'' ∧ I'' Dd = none ∧ DW K c s3 I'' H'' ∧ H'' Dd = some (.lst acc) ∧ RepL K c I'' acc pre) ∧ lc2Go dg di1 dg1 de vs1 (wipeD (forget ρ) vs) (xs.drop (i + 1)) s3 = some (rest', s6) ∧ pre ++ rest' = ys,
          fun H'' ⟨I'', a1, a2, a3, a4, a5, a6⟩ => ⟨xs.length - (i + 1), by omega, rfl, hlt, I'', a1, a2, rest', a3, a4, a5, a6⟩, fun x H3 hyl => ?_⟩
        obtain ⟨I3, g3, r3⟩ := yld x H3 hyl
        have w3 := w'.gr g3
        have g13 := g'.tr w' (g3.up (c := c))
        have e3 : Ec K c I3 H3 (L2.wipe σ vs) (wipeD (forget ρ) vs) s3 := (e.fgt (ga.s1.trans g13.s1) g13.s2 w3).wipe vs
        obtain ⟨f3, k3⟩ := fr (g3.up (c := c)) hID hDl
        refine hg _ _ _ _ _ _ _ _ _ e3 r3 hx _ fun σ4 e4 l4 n4 _ => ⟨wipe_wipe l4 n4 hj, ?_⟩
        unfold tYes
        dsimp only
        rw [if_pos rfl]
        refine hi1 _ _ _ _ _ _ zs s4 e4 hz _ fun J1 I4 H4 g4 w4 yl1 => ?_
        obtain ⟨f4, k4⟩ := fr g4 f3 k3
        have g14 := g13.tr w3 g4
        refine ⟨fun j k H'' => k = zs.length - j ∧ j ≤ zs.length ∧ ∃ I'' acc' pre' rest1 s7, (Gr c I1 H1 I'' H'' ∧ I'' Dd = none ∧ DW K c s7 I'' H'' ∧ H'' Dd = some (.lst acc') ∧ RepL K c I'' acc' pre') ∧ Sb I4 I'' ∧ lcGo dg1 dYes de (wipeD (forget ρ1) vs1) (zs.drop j) s7 = some (rest1, s5) ∧ pre' ++ (rest1 ++ rest') = ys,
          ⟨zs.length, by simp, Nat.zero_le _, I4, acc, pre, r1, s4, ⟨g14, f4, w4, k4, (racc.mono g3.s1).mono g4.s1⟩, .refl _, by simpa using hr, hy⟩, ?_⟩
        rintro j k H'' ⟨rfl, hle1, I'', acc', pre', rest1, s7, ⟨g'', hID2, w'', hDl2, racc2⟩, sb4, hgo1, hy1⟩
        obtain ⟨z1, z2⟩ := yl1 I'' H'' sb4 g''.s2
        by_cases hlt1 : j < zs.length
        · obtain ⟨go1, yld1⟩ := z1 j zs[j] (List.getElem?_eq_getElem hlt1)
          rw [List.drop_eq_getElem_cons hlt1] at hgo1
          obtain ⟨ρ2, hx1, hgo1⟩ := bind_some_of hgo1
          obtain ⟨⟨b, s8⟩, hb, hgo1⟩ := bind_some_of hgo1
          cases hb
          rw [if_pos (show (true, s7).1 = true from rfl)] at hgo1
          obtain ⟨⟨y, s9⟩, hye, hgo1⟩ := bind_some_of hgo1
          obtain ⟨⟨rest2, s10⟩, hgo3, hr2⟩ := map_some_of hgo1
          cases hr2
          refine .inr ⟨go1, fun H5 => ∃ I'' acc' pre' s7, (Gr c I1 H1 I'' H5 ∧ I'' Dd = none ∧ DW K c s7 I'' H5 ∧ H5 Dd = some (.lst acc') ∧ RepL K c I'' acc' pre') ∧ Sb I4 I'' ∧ lcGo dg1 dYes de (wipeD (forget ρ1) vs1) (zs.drop (j + 1)) s7 = some (rest2, s10) ∧ pre' ++ (rest2 ++ rest') = ys,
            fun H5 ⟨I'', a1, a2, a3, a4, a5, a6, a7⟩ => ⟨zs.length - (j + 1), by omega, rfl, hlt1, I'', a1, a2, rest2, a3, a4, a5, a6, a7⟩, fun x5 H5 hyl5 => ?_⟩
          obtain ⟨I5, g5, r5⟩ := yld1 x5 H5 hyl5
          have w5 := w''.gr g5
          have g15 := g''.tr w'' (g5.up (c := c))
          obtain ⟨f5, k5⟩ := fr (g5.up (c := c)) hID2 hDl2
          have e5 : Ec K c I5 H5 (L2.wipe σ4 vs1) (wipeD (forget ρ1) vs1) s7 := (e4.fgt (g4.s1.trans (sb4.trans g5.s1)) g5.s2 w5).wipe vs1
          refine hg1 _ _ _ _ _ _ _ _ _ e5 r5 hx1 _ fun σ6 e6 l6 n6 _ => ⟨wipe_wipe l6 n6 hj1, ?_⟩
          rw [if_pos rfl]
          refine he _ _ _ _ _ _ _ _ e6 hye _ fun yv I7 H7 g7 w7 r7 => ?_
          obtain ⟨f7, k7⟩ := fr g7 f5 k5
          have g17 := g15.tr w5 g7
          have hlp : acc'.length ≤ 1000000 := by
            have := congrArg List.length hy1
            rw [List.length_append] at this
            rw [racc2.length]
            omega
          refine ⟨acc', k7, Nat.lt_of_le_of_lt hlp (by decide), I7, acc' ++ [yv], pre' ++ [y], s9, ⟨⟨g17.s1, fun a o z => ?_, fun a o n z => ?_, g17.nw⟩, f7, fun r hr => ?_, upd_same, ((racc2.mono g5.s1).mono g7.s1).app (.one r7)⟩, sb4.trans (g5.s1.trans g7.s1), hgo3, by rw [List.append_assoc]; exact hy1⟩
          · rw [upd_ne (ne_of_none z f7)]; exact g17.s2 a o z
          · rw [upd_ne (ne_of_none z hD)]; exact g17.kp a o n z
          · obtain ⟨z1, sc, z2, z3⟩ := w7 r hr
            have n : r ≠ Dd := fun z => cD (by rw [hr, z])
            exact ⟨z1, sc, by rw [upd_ne n]; exact z2, z3⟩
        · have ei : j = zs.length := by omega
          subst ei
          rw [List.drop_length] at hgo1
          cases hgo1
          exact .inl ⟨z2, I'', acc', pre', s5, ⟨g'', hID2, w'', hDl2, racc2⟩, hgo2, hy1⟩
      · have ei : i = xs.length := by omega
        subst ei
        rw [List.drop_length] at hgo
        cases hgo
        rw [List.append_nil] at hy
        subst hy
        refine .inl ⟨y2, ?_⟩
        have sI : Sb I' (upd I' Dd (.lst acc)) := fun a o z => by rw [upd_ne (ne_of_none z hID)]; exact z
        refine q _ (upd I' Dd (.lst acc)) H' (ga.tr w1 ⟨g'.s1.trans sI, fun a o z => ?_, g'.kp, fun a z => ?_⟩) (fun r hr => ?_) (.lst upd_same (racc.mono sI))
        · by_cases n : a = Dd
          · subst n; rw [upd_same] at z; cases z; exact .inl hDl
          · rw [upd_ne n] at z; exact g'.s2 a o z
        · by_cases n : a = Dd
          · subst n; exact .inr hD
          · rw [upd_ne n] at z; exact g'.nw a z
        · obtain ⟨z1, sc, z2, z3⟩ := w' r hr
          have n : r ≠ Dd := fun z => cD (by rw [hr, z])
          exact ⟨by rw [upd_ne n]; exact z1, sc, z2, sb_sqL sI z3⟩
  · cases h
section
variable {X : Cx}
structure EIb (X : Cx) (scope : Scope) (tg iter : Expr) (wi : TI) (di : Da) : Prop where
  p : ∀ (s : Shared) (H : Hp) (C : Addr) (cl : List (Str × Addr)) (fp : List Addr), PI (X.blk s H scope (compEnvC scope cl C X.env) fp) tg iter wi
  s : SndI X.kx wi di
theorem eib_mk {scope : Scope} {tg iter : Expr} {wi : Shared → Hp → Addr → List (Str × Addr) → List Addr → TI} {di : Da} (h : ∀ (s : Shared) (H : Hp) (C : Addr) (cl : List (Str × Addr)) (fp : List Addr), EI (X.blk s H scope (compEnvC scope cl C X.env) fp) tg iter (wi s H C cl fp) di) (hg : ∀ (s : Shared) (H : Hp) (C : Addr) (cl : List (Str × Addr)) (fp : List Addr), wi s H C cl fp = wi X.s_0 (fun _ => none) 0 [] [] := by intros; rfl) : EIb X scope tg iter (wi X.s_0 (fun _ => none) 0 [] []) di :=
  ⟨fun s H C cl fp => hg s H C cl fp ▸ (h s H C cl fp).p, (h X.s_0 (fun _ => none) 0 [] []).s⟩
/-- name = [.. for .. in .. for .. in ..] on one line -/
theorem es_lc2 {i : Nat} {y : Str} {py : Pos} {elt tg iter tg1 iter1 : Expr} {scope : Scope} {own : List (Str × Nat)} {vs1 : List Nat} {pos spos : Pos} {wi wi1 : TI} {di di1 : Da} {g g1 : TG} {dg dg1 : Dg} {js js1 : List Nat} {te : TE} {de : Dn} (hc : X.calm = true) (hN : X.N.Nodup) (hy : X.N[i]? = some y) (hyl : X.env.scope.names.lookup y = some .local)
    (hsw : swapsWith (.ListComp elt [⟨tg, iter, [], 0⟩, ⟨tg1, iter1, [], 0⟩] scope pos) (some (.Name y py)) spos.line X.env = pure true) (hi : EI X tg iter wi di) (ok : blkC X.N X.env.scope scope own = true) (hv : ∀ i ∈ vs1, i ∈ own.map (fun z => z.2))
    (hg : EGb X scope tg g dg js) (hi1 : EIb X scope tg1 iter1 wi1 di1) (hg1 : EGb X scope tg1 g1 dg1 js1) (he : EEb X scope elt te de) (hj : ∀ k ∈ js, k ∈ own.map (fun z => z.2) := by decide) (hj1 : ∀ k ∈ js1, k ∈ vs1 := by decide)
    (hs : ∀ x, foldedSetIterable iter X.env x = pure x := by intro _; rfl) (hs1 : ∀ env x, foldedSetIterable iter1 env x = pure x := by intro _ _; rfl) :
    ES X (.Assign [.Name y py] (.ListComp elt [⟨tg, iter, [], 0⟩, ⟨tg1, iter1, [], 0⟩] scope pos) spos) (tAsg (tLc2 wi g tYes wi1 g1 tYes te (own.map (fun z => z.2)) vs1) (gName i)) (dAsg (dLc2 di dg di1 dg1 de (own.map (fun z => z.2)) vs1) (gdName i)) :=
  ⟨ps_setLc2 hc hN hy hyl hsw hi.p (blkOk_by ok) hv hg.p (fun _ _ _ _ _ => pts_nil) hi1.p hg1.p (fun _ _ _ _ _ => pts_nil) he.p hs hs1, ss_asg (sn_lc2 hi.s hg.s hj hi1.s hg1.s hj1 he.s) (sg_name i)⟩
end
end Dl
end
section
set_option Elab.async false
set_option linter.all false
set_option maxRecDepth 100000
set_option maxHeartbeats 4000000
namespace Dl
open PySem PySem.Spec PyProof.Rows L2 StX
/-! zip over any two iterators, walked while the pair given out before is still held -/
section
variable {prog : Program} {w : World} {A : Around} {E : Value → Shared → Prop} {s : Shared} {z TI TO T i1 i2 : Addr} {fp1 fp2 : List Addr} {n1 n2 i : Nat} {P1 P2 : Nat → Value → Prop} {St1 St2 : Nat → Heap → Prop} {f : Bool} {oT : Obj}
theorem zh_item {Q : Value → Shared → Prop} (S : ZipSep2 z TI TO i1 i2 fp1 fp2) (D1 : Draws prog w A i1 fp1 n1 P1 St1) (D2 : Draws prog w A i2 fp2 n2 P2 St2) (hz : IsZipHeld s.heap z TI TO T f) (gT : s.heap.get? T = some oT)
    (hI : IsTupOf2 s.heap TI (.ref i1) (.ref i2)) (a1 : St1 i s.heap) (a2 : St2 i s.heap) (b1 : i < n1) (b2 : i < n2)
    (q : ∀ x y h' tk, P1 i x → P2 i y → IsZipHeld h' z TI TO T true → St1 (i + 1) h' → St2 (i + 1) h' → IsTupOf2 h' s.heap.objs.size x y →
      (∀ c o, c ≠ z → c ≠ i1 → c ≠ i2 → s.heap.get? c = some o → h'.get? c = some o) → Q (.ref s.heap.objs.size) { s with heap := h', toks := tk }) :
    wpAny (model prog w) A (Builtin.«zip.__next__» ⟨[.ref z], []⟩) (fun fin s' => ∃ v, fin = .done (.ret v) ∧ Q v s') E s := by
  obtain ⟨hp, g, d, tk0, os⟩ := s
  show wpAny _ _ (field (.ref z) 2 >>= _) _ _ _
  refine wpAny_bind (wpAny_field hz rfl (x := .bool false) rfl ?_)
  show wpAny _ _ (field (.ref z) 3 >>= _) _ _ _
  refine wpAny_bind (wpAny_field hz rfl (x := .ref TI) rfl (wpAny_bind (wpAny_seqItems hI rfl ?_)))
  show wpAny _ _ (Builtin.SmallTypes.ownedTupleIsFree (.ref z) >>= _) _ _ _
  refine wpAny_bind (wpAny_tupleHeld_zip hz gT fun h1 hz1 s1 => ?_)
  replace s1 : Heap.SameBut z hp h1 := s1
  simp only [Bool.false_eq_true, if_false]
  refine wpAny_bind ?_
  rw [← Array.forIn_toList]
  simp only [List.forIn_cons, List.forIn_nil]
  refine wpAny_bind (wpAny_bind (wpAny_holding ?_))
  show wpAny _ _ (Builtin.SmallTypes.nextOf (.ref i1) >>= _) _ _ ⟨h1, g, d, tk0, os⟩
  refine wpAny_bind (D1.item i _ _ _ b1 (D1.over a1 s1 S.zf1) fun x h2 tk1 px c1 s2 => wpAny_pure (wpAny_pure ?_))
  replace s2 : Heap.SameBut i1 h1 h2 := s2
  refine wpAny_bind (wpAny_bind (wpAny_holding ?_))
  show wpAny _ _ (Builtin.SmallTypes.nextOf (.ref i2) >>= _) _ _ ⟨h2, g, d, tk1, os⟩
  refine wpAny_bind (D2.item i _ _ _ b2 (D2.over (D2.over a2 s1 S.zf2) s2 S.sep1_2) fun y h3 tk2 py c2 s3 => wpAny_pure (wpAny_pure (wpAny_pure ?_)))
  replace s3 : Heap.SameBut i2 h2 h3 := s3
  show wpAny _ _ (newTuple [x, y] >>= _) _ _ _
  refine wpAny_bind (wpAny_newTuple (wpAny_pure ⟨_, rfl, ?_⟩))
  have sz : h3.objs.size = hp.objs.size := by rw [s3.1, s2.1, s1.1]
  have hz3 : IsZipHeld h3 z TI TO T true := s3.extBut _ _ S.zi2 (s2.extBut _ _ S.zi1 hz1)
  have e1 : St1 (i + 1) h3 := D1.over c1 s3 S.sep2_1
  show Q (.ref h3.objs.size) ⟨h3.push { cls := .type "tuple", data := .seq #[x, y] }, g, d, tk2, os⟩
  have up : ∀ c o, h3.get? c = some o → (h3.push { cls := .type "tuple", data := .seq #[x, y] }).get? c = some o := fun c o e => Heap.get?_push_of_some _ e
  have np : IsTupOf2 (h3.push { cls := .type "tuple", data := .seq #[x, y] }) h3.objs.size x y := Heap.get?_push_size _ rfl
  rw [sz] at np ⊢
  exact q x y _ tk2 px py (up _ _ hz3) (D1.frame _ _ _ e1 fun b _ o e => up b o e) (D2.frame _ _ _ c2 fun b _ o e => up b o e) np fun c o n1 n2 n3 e => up c o (s3.extBut _ _ n3 (s2.extBut _ _ n2 (s1.extBut _ _ n1 e)))
theorem zh_end {Q : PySem.Fin → Shared → Prop} (S : ZipSep2 z TI TO i1 i2 fp1 fp2) (D1 : Draws prog w A i1 fp1 n1 P1 St1) (D2 : Draws prog w A i2 fp2 n2 P2 St2) (hz : IsZipHeld s.heap z TI TO T f) (gT : s.heap.get? T = some oT)
    (hI : IsTupOf2 s.heap TI (.ref i1) (.ref i2)) (a1 : St1 i s.heap) (a2 : St2 i s.heap) (b1 : i ≤ n1) (b2 : i ≤ n2) (he : i = n1 ∨ i = n2)
    (q : ∀ h' tk e, (∀ c o, c ≠ z → c ≠ i1 → c ≠ i2 → s.heap.get? c = some o → h'.get? c = some o) → (∃ o, h'.get? e = some o ∧ o.cls = .type "StopIteration") → E (.ref e) { s with heap := h', toks := tk }) :
    wpAny (model prog w) A (Builtin.«zip.__next__» ⟨[.ref z], []⟩) Q E s := by
  obtain ⟨hp, g, d, tk0, os⟩ := s
  show wpAny _ _ (field (.ref z) 2 >>= _) _ _ _
  refine wpAny_bind (wpAny_field hz rfl (x := .bool false) rfl ?_)
  show wpAny _ _ (field (.ref z) 3 >>= _) _ _ _
  refine wpAny_bind (wpAny_field hz rfl (x := .ref TI) rfl (wpAny_bind (wpAny_seqItems hI rfl ?_)))
  show wpAny _ _ (Builtin.SmallTypes.ownedTupleIsFree (.ref z) >>= _) _ _ _
  refine wpAny_bind (wpAny_tupleHeld_zip hz gT fun h1 hz1 s1 => ?_)
  replace s1 : Heap.SameBut z hp h1 := s1
  simp only [Bool.false_eq_true, if_false]
  refine wpAny_bind ?_
  rw [← Array.forIn_toList]
  simp only [List.forIn_cons, List.forIn_nil]
  refine wpAny_bind (wpAny_bind (wpAny_holding ?_))
  show wpAny _ _ (Builtin.SmallTypes.nextOf (.ref i1) >>= _) _ _ ⟨h1, g, d, tk0, os⟩
  by_cases hl : i < n1
  · have e2 : i = n2 := by omega
    refine wpAny_bind (D1.item i _ _ _ hl (D1.over a1 s1 S.zf1) fun x h2 tk1 px c1 s2 => wpAny_pure (wpAny_pure ?_))
    replace s2 : Heap.SameBut i1 h1 h2 := s2
    refine wpAny_bind (wpAny_bind (wpAny_holding ?_))
    show wpAny _ _ (Builtin.SmallTypes.nextOf (.ref i2) >>= _) _ _ ⟨h2, g, d, tk1, os⟩
    refine wpAny_bind (D2.done ⟨h2, g, d, tk1, os⟩ _ _ (by rw [← e2]; exact D2.over (D2.over a2 s1 S.zf2) s2 S.sep1_2) fun h3 e s3 he => ?_)
    exact q h3 tk1 e (fun c o n1 n2 n3 x => s3 _ _ n3 (s2.extBut _ _ n2 (s1.extBut _ _ n1 x))) he
  · have e1 : i = n1 := by omega
    refine wpAny_bind (D1.done ⟨h1, g, d, tk0, os⟩ _ _ (by rw [← e1]; exact D1.over a1 s1 S.zf1) fun h2 e s2 he => ?_)
    exact q h2 tk0 e (fun c o n1 n2 n3 x => s2 _ _ n2 (s1.extBut _ _ n1 x)) he
theorem zh_next {Q : Option Value → Shared → Prop} (S : ZipSep2 z TI TO i1 i2 fp1 fp2) (D1 : Draws prog w A.in1 i1 fp1 n1 P1 St1) (D2 : Draws prog w A.in1 i2 fp2 n2 P2 St2) (hz : IsZipHeld s.heap z TI TO T f) (gT : s.heap.get? T = some oT)
    (hI : IsTupOf2 s.heap TI (.ref i1) (.ref i2)) (a1 : St1 i s.heap) (a2 : St2 i s.heap) (b1 : i < n1) (b2 : i < n2)
    (q : ∀ x y h' tk, P1 i x → P2 i y → IsZipHeld h' z TI TO T true → St1 (i + 1) h' → St2 (i + 1) h' → IsTupOf2 h' s.heap.objs.size x y →
      (∀ c o, c ≠ z → c ≠ i1 → c ≠ i2 → s.heap.get? c = some o → h'.get? c = some o) → Q (some (.ref s.heap.objs.size)) { s with heap := h', toks := tk }) : wpAny (model prog w) A (pyNext (.ref z)) Q E s := by
  have ty : s.TypeIs (.ref z) "zip" := ⟨_, hz, rfl⟩
  unfold pyNext
  refine wpAny_bind (wpAny_attempt (wpAny_callSpecial?_slot (name := Str.ofString "__next__") ty F.slot_zip_next (wpAny_call_entry F.slot_zip_next ty F.entry_zip_next (zh_item S D1 D2 hz gT hI a1 a2 b1 b2 fun x y h' tk p1 p2 p3 p4 p5 p6 p7 => ?_) (F.args_zip_next_1 _))))
  exact wpAny_pure (q x y h' tk p1 p2 p3 p4 p5 p6 p7)
theorem zh_done {Q : Option Value → Shared → Prop} (S : ZipSep2 z TI TO i1 i2 fp1 fp2) (D1 : Draws prog w A.in1 i1 fp1 n1 P1 St1) (D2 : Draws prog w A.in1 i2 fp2 n2 P2 St2) (hz : IsZipHeld s.heap z TI TO T f) (gT : s.heap.get? T = some oT)
    (hI : IsTupOf2 s.heap TI (.ref i1) (.ref i2)) (a1 : St1 i s.heap) (a2 : St2 i s.heap) (b1 : i ≤ n1) (b2 : i ≤ n2) (he : i = n1 ∨ i = n2)
    (q : ∀ h' tk, (∀ c o, c ≠ z → c ≠ i1 → c ≠ i2 → s.heap.get? c = some o → h'.get? c = some o) → Q none { s with heap := h', toks := tk }) : wpAny (model prog w) A (pyNext (.ref z)) Q E s := by
  have ty : s.TypeIs (.ref z) "zip" := ⟨_, hz, rfl⟩
  unfold pyNext
  refine wpAny_bind (wpAny_attempt (wpAny_callSpecial?_slot (name := Str.ofString "__next__") ty F.slot_zip_next (wpAny_call_entry F.slot_zip_next ty F.entry_zip_next (zh_end S D1 D2 hz gT hI a1 a2 b1 b2 he fun h' tk e k x => ?_) (F.args_zip_next_1 _))))
  obtain ⟨o, ho, hc⟩ := x
  exact wpAny_bind (wpAny_isInstance (T := "StopIteration") (b := true) ⟨o, ho, hc⟩ isSubtype_stop (wpAny_pure (q h' tk k)))
end
/-- zip over any two, as the argument of dict(..) -/
theorem zipArg {prog : Program} {w : World} {z TI TO i1 i2 : Addr} {fp1 fp2 : List Addr} {n1 n2 : Nat} {P1 P2 : Nat → Value → Prop} {St1 St2 : Nat → Heap → Prop} (S : ZipSep2 z TI TO i1 i2 fp1 fp2)
    (D1 : ∀ A : Around, A.handled = none → Draws prog w A i1 fp1 n1 P1 St1) (D2 : ∀ A : Around, A.handled = none → Draws prog w A i2 fp2 n2 P2 St2) (L1 : ∀ i h, St1 i h → ∀ b ∈ fp1, ∃ o, h.get? b = some o) (L2 : ∀ i h, St2 i h → ∀ b ∈ fp2, ∃ o, h.get? b = some o) :
    PairArg prog w "zip" z (z :: TI :: TO :: (fp1 ++ fp2)) [z, TO, i1, i2] (min n1 n2) (fun i k v => P1 i k ∧ P2 i v)
      (fun h => IsZip h z TI TO .none ∧ IsTupOf2 h TI (.ref i1) (.ref i2) ∧ (∃ a b, IsTupOf2 h TO a b) ∧ St1 0 h ∧ St2 0 h) where
  type := fun s ok => ⟨_, ok.1, rfl⟩
  notDict := by decide
  keep := fun h h' ok k => by
    obtain ⟨hz, hI, ⟨a, b, hO⟩, a1, a2⟩ := ok
    exact ⟨k _ _ hz, k _ _ hI, ⟨a, b, k _ _ hO⟩, (D1 callerA rfl).frame _ _ _ a1 fun b _ o e => k b o e, (D2 callerA rfl).frame _ _ _ a2 fun b _ o e => k b o e⟩
  there := fun h ok b hb => by
    obtain ⟨hz, hI, ⟨a, c, hO⟩, a1, a2⟩ := ok
    rcases List.mem_cons.mp hb with rfl | hb
    · exact ⟨_, hz⟩
    rcases List.mem_cons.mp hb with rfl | hb
    · exact ⟨_, hI⟩
    rcases List.mem_cons.mp hb with rfl | hb
    · exact ⟨_, hO⟩
    rcases List.mem_append.mp hb with hb | hb
    · exact L1 _ _ a1 b hb
    · exact L2 _ _ a2 b hb
  sub := fun b hb => by
    have e : b = z ∨ b = TO ∨ b = i1 ∨ b = i2 := by simpa using hb
    rcases e with rfl | rfl | rfl | rfl
    · exact List.mem_cons_self
    · exact List.mem_cons_of_mem _ (List.mem_cons_of_mem _ List.mem_cons_self)
    · exact List.mem_cons_of_mem _ (List.mem_cons_of_mem _ (List.mem_cons_of_mem _ (List.mem_append_left _ S.mem1)))
    · exact List.mem_cons_of_mem _ (List.mem_cons_of_mem _ (List.mem_cons_of_mem _ (List.mem_append_right _ S.mem2)))
  noKeys := fun A s Q E hA ok h => getAttrOr_miss_zip ok.1 rfl rfl rfl zip_no_keys (by decide +kernel) hA h
  iter := fun A s d Q E hA ok hd hdf h => by
    obtain ⟨hz, hI, ⟨a, b, hO⟩, a1, a2⟩ := ok
    have dz : d ≠ z := fun e => hdf (by rw [e]; exact List.mem_cons_self)
    have dI : d ≠ TI := fun e => hdf (by rw [e]; exact List.mem_cons_of_mem _ List.mem_cons_self)
    have dO : d ≠ TO := fun e => hdf (by rw [e]; exact List.mem_cons_of_mem _ (List.mem_cons_of_mem _ List.mem_cons_self))
    have d1 : ∀ b ∈ fp1, b ≠ d := fun b hb e => hdf (by rw [← e]; exact List.mem_cons_of_mem _ (List.mem_cons_of_mem _ (List.mem_cons_of_mem _ (List.mem_append_left _ hb))))
    have d2 : ∀ b ∈ fp2, b ≠ d := fun b hb e => hdf (by rw [← e]; exact List.mem_cons_of_mem _ (List.mem_cons_of_mem _ (List.mem_cons_of_mem _ (List.mem_append_right _ hb))))
    have hA1 : A.in1.handled = none := by simp [hA]
    refine wpAny_pyIter_zip hz (h z [z, TO, i1, i2] (fun i h => IsTupOf2 h TI (.ref i1) (.ref i2) ∧ St1 i h ∧ St2 i h ∧
      ((IsZip h z TI TO .none ∧ ∃ a b, IsTupOf2 h TO a b) ∨ ∃ T f oT, IsZipHeld h z TI TO T f ∧ h.get? T = some oT ∧ T ≠ z ∧ T ≠ i1 ∧ T ≠ i2 ∧ T ≠ d)) s.heap s.toks ?_ ⟨hI, a1, a2, .inl ⟨hz, a, b, hO⟩⟩ (fun _ _ e => e) fun b hb => .inl hb)
    exact {
      off := fun hm => by
        have e : d = z ∨ d = TO ∨ d = i1 ∨ d = i2 := by simpa using hm
        rcases e with e | e | e | e
        · exact dz e
        · exact dO e
        · exact d1 i1 S.mem1 e.symm
        · exact d2 i2 S.mem2 e.symm
      frame := fun i h1 h2 st k => by
        obtain ⟨hI, a1, a2, hz⟩ := st
        refine ⟨k _ _ (Ne.symm dI) hI, (D1 A hA).frame _ _ _ a1 fun b hb o e => k b o (d1 b hb) e, (D2 A hA).frame _ _ _ a2 fun b hb o e => k b o (d2 b hb) e, ?_⟩
        rcases hz with ⟨hz, a, b, hO⟩ | ⟨T, f, oT, hz, gT, r1, r2, r3, r4⟩
        · exact .inl ⟨k _ _ (Ne.symm dz) hz, a, b, k _ _ (Ne.symm dO) hO⟩
        · exact .inr ⟨T, f, oT, k _ _ (Ne.symm dz) hz, k _ _ r4 gT, r1, r2, r3, r4⟩
      item := fun i s1 Q1 E1 hi st hds hQ => by
        obtain ⟨hI, a1, a2, hz⟩ := st
        have b1 : i < n1 := Nat.lt_of_lt_of_le hi (Nat.min_le_left ..)
        have b2 : i < n2 := Nat.lt_of_lt_of_le hi (Nat.min_le_right ..)
        have lt : ∀ {c o}, s1.heap.get? c = some o → s1.heap.objs.size ≠ c := fun e => Nat.ne_of_gt (Heap.lt_size e)
        have m1 : s1.heap.objs.size ≠ i1 := let ⟨_, e⟩ := (D1 A hA).live _ _ a1; lt e
        have m2 : s1.heap.objs.size ≠ i2 := let ⟨_, e⟩ := (D2 A hA).live _ _ a2; lt e
        rcases hz with ⟨hz, a, b, hO⟩ | ⟨T, f, oT, hz, gT, r1, r2, r3, r4⟩
        · refine wpAny_pyNext_zipD2_item S (D1 _ hA1) (D2 _ hA1) hz hI hO a1 a2 b1 b2 fun x y h' tk p1 p2 q1 q2 q3 q4 q5 q6 k => ?_
          refine hQ s1.heap.objs.size x y h' tk ⟨p1, p2⟩ (.inl ⟨_, q5, rfl, _, rfl⟩) ⟨k _ _ S.TIz S.TITO S.TIi1 S.TIi2 hI, q3, q4, .inr ⟨s1.heap.objs.size, false, _, q1, q5, lt hz, m1, m2, Nat.ne_of_gt hds⟩⟩ fun c o hc e => ?_
          simp only [List.mem_cons, List.not_mem_nil, or_false, not_or] at hc
          exact k c o hc.1 hc.2.1 hc.2.2.1 hc.2.2.2 e
        · refine zh_next S (D1 _ hA1) (D2 _ hA1) hz gT hI a1 a2 b1 b2 fun x y h' tk p1 p2 q1 q3 q4 q5 k => ?_
          refine hQ s1.heap.objs.size x y h' tk ⟨p1, p2⟩ (.inl ⟨_, q5, rfl, _, rfl⟩) ⟨k _ _ S.TIz S.TIi1 S.TIi2 hI, q3, q4, .inr ⟨T, true, oT, q1, k _ _ r1 r2 r3 gT, r1, r2, r3, r4⟩⟩ fun c o hc e => ?_
          simp only [List.mem_cons, List.not_mem_nil, or_false, not_or] at hc
          exact k c o hc.1 hc.2.2.1 hc.2.2.2 e
      done := fun s1 Q1 E1 st hQ => by
        obtain ⟨hI, a1, a2, hz⟩ := st
        have e0 : min n1 n2 = n1 ∨ min n1 n2 = n2 := by omega
        rcases hz with ⟨hz, a, b, hO⟩ | ⟨T, f, oT, hz, gT, r1, r2, r3, r4⟩
        · refine wpAny_pyNext_zipD2_end S (D1 _ hA1) (D2 _ hA1) hz hI hO a1 a2 (Nat.min_le_left ..) (Nat.min_le_right ..) e0 fun h' tk k => hQ h' tk fun c o hc e => ?_
          simp only [List.mem_cons, List.not_mem_nil, or_false, not_or] at hc
          exact k c o hc.1 hc.2.1 hc.2.2.1 hc.2.2.2 e
        · refine zh_done S (D1 _ hA1) (D2 _ hA1) hz gT hI a1 a2 (Nat.min_le_left ..) (Nat.min_le_right ..) e0 fun h' tk k => hQ h' tk fun c o hc e => ?_
          simp only [List.mem_cons, List.not_mem_nil, or_false, not_or] at hc
          exact k c o hc.1 hc.2.2.1 hc.2.2.2 e }
end Dl
end
section
set_option Elab.async false
set_option linter.all false
set_option maxRecDepth 100000
set_option maxHeartbeats 4000000
namespace Dl
open PySem PySem.Spec PyProof.Rows L2 StX RZ
/-! dicts with keys that are tuples of texts: told[row], told.get(row, x), dict(zip(rows, answers)) -/
/-- the first value at a key -/
def lookV : List (List Str × Addr) → List V → List Str → Option V
  | k :: ks, v :: vs, x => if k.1 = x then some v else lookV ks vs x
  | [], _, _ => none
  | _ :: _, [], _ => none
section
variable {K : Kx} {c : Option Addr} {I : Hp}
theorem RepT.look : ∀ {ks : List (List Str × Addr)} {vs : List V} {es : List (List Str × D)} {k : List Str} {d : D}, RepT K c I ks vs es → lookD es k = some d → ∃ v, lookV ks vs k = some v ∧ Rep K c I v d
  | _, _, _, _, _, .nil, h => by cases h
  | _, _, _, k, d, .cons (k := k') q a r, h => by
    by_cases e : k' = k
    · subst e
      rename_i v0 d0 _ _ _ _
      have h : some d0 = some d := by simpa [lookD, List.find?_cons] using h
      cases h
      exact ⟨v0, by simp [lookV], a⟩
    · rename_i v0 d0 b0 ks0 vs0 ds0
      have h2 : lookD ds0 k = some d := by
        unfold lookD at h ⊢
        rw [List.find?_cons, decide_eq_false e] at h
        exact h
      obtain ⟨v, h3, h4⟩ := RepT.look r h2
      exact ⟨v, by simp only [lookV]; rw [if_neg e]; exact h3, h4⟩
theorem RepT.none : ∀ {ks : List (List Str × Addr)} {vs : List V} {es : List (List Str × D)} {k : List Str}, RepT K c I ks vs es → lookD es k = Option.none → lookV ks vs k = Option.none
  | _, _, _, _, .nil, h => rfl
  | _, _, _, k, .cons (k := k') q a r, h => by
    by_cases e : k' = k
    · subst e
      simp [lookD, List.find?_cons] at h
    · rename_i v0 d0 b0 ks0 vs0 ds0
      have h2 : lookD ds0 k = Option.none := by
        unfold lookD at h ⊢
        rw [List.find?_cons, decide_eq_false e] at h
        exact h
      simp only [lookV]
      rw [if_neg e]
      exact RepT.none r h2
theorem RepT.sq : ∀ {ks : List (List Str × Addr)} {vs : List V} {es : List (List Str × D)}, RepT K c I ks vs es → ∀ k ∈ ks, SqT K I k.2 (k.1.map V.str)
  | _, _, _, .nil, k, hk => nomatch hk
  | _, _, _, .cons q a r, k, hk => by
    rcases List.mem_cons.mp hk with e | hk
    · subst e; exact q
    · exact RepT.sq r k hk
end
/-- the dict at a, and its keys' objects -/
def DtR (K : Kx) (H : Hp) (a : Addr) (ks : List (List Str × Addr)) (vs : List V) : Prop := H a = some (DTo K.P K.w a ks vs) ∧ ∀ k ∈ ks, SqT K H k.2 (k.1.map V.str)
theorem str_kV (k : List Str) : k.map V.str = (k.map Sum.inr).map kV := by
  rw [List.map_map]; rfl
theorem tk_at {P : Program} {w : World} {h h' : Heap} {ks : List Key} {a : Addr} (x : (tupleKind (mixKind P w)).is h ks a) (k : ∀ o, h.get? a = some o → h'.get? a = some o) : (tupleKind (mixKind P w)).is h' ks a := by
  obtain ⟨o, its, n, h1, h2, h3, h4⟩ := x
  exact ⟨o, its, n, k o h1, h2, h3, h4⟩
section
variable {X : Cx} {pins : List (Addr × Obj)} {σ : L2.St} {H : Hp} {s : Shared} {a b : Addr}
theorem key_sq (I : Inv X pins σ H s) {k : List Str} (q : SqT X.kx H b (k.map V.str)) : (tupleKind (mixKind X.prog X.w)).is s.heap (k.map Sum.inr) b := by
  obtain ⟨its, r, ⟨o, h1, h2, n, h3⟩, _⟩ := I.tuple q
  rw [str_kV] at r
  exact ⟨o, its.toArray, n, h1, h2, h3, by simpa using items_are r⟩
theorem inr_inj : ∀ {k x : List Str}, k.map (Sum.inr : Str → Key) = x.map Sum.inr → k = x
  | [], [], _ => rfl
  | [], _ :: _, h => by simp at h
  | _ :: _, [], h => by simp at h
  | a :: k, b :: x, h => by
    rw [List.map_cons, List.map_cons] at h
    injection h with h1 h2
    rw [Sum.inr.inj h1, inr_inj h2]
theorem far {b N : Nat} (h : b < N) : b ≠ N + 4 ∧ b ≠ N + 3 ∧ b ≠ N ∧ b ≠ N + 1 ∧ b ≠ N + 5 := by omega
theorem look_at {k : List Str} : ∀ {ks : List (List Str × Addr)} {vs : List V} {xs : List (List Key × Addr × Value)}, xs.map (fun x => (x.1, x.2.1)) = ks.map (fun k => (k.1.map Sum.inr, k.2)) → Vals vs (xs.map fun x => x.2.2) →
    RelO (lookV ks vs k) ((atKey xs (k.map Sum.inr)).map fun z => z.2)
  | [], vs, [], _, _ => True.intro
  | [], _, _ :: _, e, _ => by simp at e
  | _ :: _, _, [], e, _ => by simp at e
  | q :: ks, vs, x :: xs, e, r => by
    rw [List.map_cons, List.map_cons] at e
    injection e with e1 e2
    have e3 : x.1 = q.1.map Sum.inr := congrArg (fun z => z.1) e1
    rw [List.map_cons] at r
    cases r with
    | @cons v _ vs _ hv r =>
      by_cases hq : q.1 = k
      · have b1 : atKey (x :: xs) (k.map Sum.inr) = some x.2 := by simp [atKey, List.find?_cons, e3, hq]
        simp only [lookV]
        rw [if_pos hq, b1]
        exact hv
      · have b1 : atKey (x :: xs) (k.map Sum.inr) = atKey xs (k.map Sum.inr) := by
          have n : ¬ x.1 = k.map Sum.inr := fun z => hq (inr_inj (e3.symm.trans z))
          simp [atKey, List.find?_cons, n]
        simp only [lookV]
        rw [if_neg hq, b1]
        exact look_at e2 r
theorem dtr_of (I : Inv X pins σ H s) {ks : List (List Str × Addr)} {vs : List V} (h : DtR X.kx H a ks vs) : (a == sysModules) = false ∧
    ∃ xs, s.heap.DictOfH (tupleKind (mixKind X.prog X.w)) a xs ∧ ∀ k : List Str, RelO (lookV ks vs k) ((atKey xs (k.map Sum.inr)).map fun z => z.2) := by
  obtain ⟨h1, hk⟩ := h
  obtain ⟨⟨hd, hz, xs, e, rv, o, es, ep, g1, g2, g3, g4, g5⟩, _⟩ := I.hok a _ h1
  refine ⟨hd, xs, ⟨o, es, ep, g1, g2, g3, g4, fun x hx => ?_, g5⟩, fun k => look_at e rv⟩
  have hm : (x.1, x.2.1) ∈ ks.map (fun k => (k.1.map Sum.inr, k.2)) := by rw [← e]; exact List.mem_map_of_mem hx
  obtain ⟨q, hq, eq⟩ := List.mem_map.mp hm
  have e1 : x.1 = q.1.map Sum.inr := (congrArg (fun z => z.1) eq).symm
  have e2 : x.2.1 = q.2 := (congrArg (fun z => z.2) eq).symm
  rw [e1, e2]
  exact key_sq I (hk q hq)
/-- iter over a list or a tuple -/
def ItV (K : Kx) (H : Hp) (x : V) (xs : List V) : Prop := ∃ l, x = .ref l ∧ (SqL K H l xs ∨ SqT K H l xs)
theorem itv_begins (I : Inv X pins σ H s) {x : V} {xs : List V} (h : ItV X.kx H x xs) : ∃ (l : Addr) (o : Obj) (B : Heap → Prop) (its : List Value) (St : Addr → Nat → Heap → Prop), x = .ref l ∧ Vals xs its ∧ l < s.heap.objs.size ∧ Begins (.ref l) o B ∧ B s.heap ∧
    (∀ (it : Addr) (A : Around), A.handled = none → l ≠ it → Draws X.prog X.w A it [it, l] its.length (fun i v => its[i]? = some v) (St it)) ∧
    (∀ it h, h.get? it = some o → B h → St it 0 h) ∧ ∀ it i h, St it i h → ∀ b ∈ [it, l], ∃ o, h.get? b = some o := by
  obtain ⟨l, rfl, h | h⟩ := h
  · obtain ⟨its, r, p, _⟩ := I.list h
    refine ⟨l, _, _, its, fun it i h => h.IsListIter it l i ∧ h.IsList l its.toArray, rfl, r, p.lt, begins_list l its.toArray, p.isList, fun it A hA hn => ?_, fun it h e b => ⟨⟨_, e, rfl, rfl⟩, b⟩, fun it i h st b hb => ?_⟩
    · have D := Draws.list (prog := X.prog) (w := X.w) hA it l hn its.toArray
      simpa using D
    · obtain ⟨⟨o1, e1, _⟩, ⟨o2, e2, _⟩⟩ := st
      have e : b = it ∨ b = l := by simpa using hb
      rcases e with rfl | rfl
      · exact ⟨_, e1⟩
      · exact ⟨_, e2⟩
  · obtain ⟨its, r, p, _⟩ := I.tuple h
    have p' : s.heap.IsTuple l its.toArray := p
    obtain ⟨o, ho, _⟩ := id p'
    refine ⟨l, _, _, its, fun it i h => h.IsTupleIter it l i ∧ h.IsTuple l its.toArray, rfl, r, Heap.lt_size ho, begins_tuple l its.toArray, p', fun it A hA hn => ?_, fun it h e b => ⟨⟨_, e, rfl, rfl⟩, b⟩, fun it i h st b hb => ?_⟩
    · have D := Draws.tuple (prog := X.prog) (w := X.w) hA it l hn its.toArray
      simpa using D
    · obtain ⟨⟨o1, e1, _⟩, ⟨o2, e2, _⟩⟩ := st
      have e : b = it ∨ b = l := by simpa using hb
      rcases e with rfl | rfl
      · exact ⟨_, e1⟩
      · exact ⟨_, e2⟩
end

/-! told[row] -/
def tDGetT (K : Kx) (td ty : TE) : TE := fun σ H Q => td σ H fun x H1 => ty σ H1 fun y H2 => ∃ a b ks vs k v, x = .ref a ∧ y = .ref b ∧ DtR K H2 a ks vs ∧ SqT K H2 b (k.map V.str) ∧ lookV ks vs k = some v ∧ Q v H2
theorem pe_dgetT {X : Cx} {o i : Expr} {td ty : TE} {pos : Pos} (hu : X.A.units + 1 < cLine) (ho : PE X o td) (hi : PE X i ty) (hs : NoSl i) : PE X (.Subscript o i pos) (tDGetT X.kx td ty) := by
  refine ⟨fun pins s σ H Q I h => ?_⟩
  refine subD_of PySem.F.slot_dict_getitem.lookup hs (thn (ho.run pins s σ H _ I h) fun u s1 ⟨x, H1, I1, rx, q1⟩ => thn (hi.run pins s1 σ H1 _ I1 q1) fun iv s2 ⟨y, H2, I2, ry, a, b, ks, vs, k, v, ex, ey, g, hb, hl, q2⟩ => ?_)
  subst ex ey
  obtain rfl : u = Value.ref a := rx
  obtain rfl : iv = Value.ref b := ry
  obtain ⟨hd, xs, dd, rel⟩ := dtr_of I2 g
  have r := rel k
  rw [hl] at r
  obtain ⟨w', hw, rw'⟩ := RelO.some_of (v := v) r
  obtain ⟨p, hp, hp2⟩ := Option.map_eq_some_iff.mp hw
  refine ⟨dd.typeIs, wpAny_getItem_heap (tupleKind_room_in1 hu) (key_sq I2 hb) dd hp ?_⟩
  rw [hp2]
  exact ⟨v, H2, I2.tok _, rw', q2⟩
def rowOf (d : D) : Option (List Str) := d.asT.bind strsOf
def dgetTD : D → D → Option D
  | .dT es, y => (rowOf y).bind fun k => lookD es k
  | _, _ => none
theorem rowOf_rep {K : Kx} {c : Option Addr} {I : Hp} {v : V} {d : D} {k : List Str} (h : Rep K c I v d) (e : rowOf d = some k) : ∃ b, v = .ref b ∧ SqT K I b (k.map V.str) := by
  obtain ⟨ds, h1, h2⟩ := bind_some_of e
  obtain ⟨a, xs, rfl, hq, r⟩ := h.asT h1
  have ev := strsOf_rep r h2
  subst ev
  exact ⟨a, rfl, hq⟩
theorem sn_dgetT {K : Kx} {td ty : TE} {dd dy : Dn} (h0 : SndE K td dd) (h1 : SndE K ty dy) : SndE K (tDGetT K td ty) (dOp dgetTD dd dy) := fun c I H σ ρ s d s' e h Q q => by
  obtain ⟨⟨x, s1⟩, h2, h⟩ := bind_some_of h
  obtain ⟨⟨y, s2⟩, h3, h⟩ := bind_some_of h
  obtain ⟨z, h4, h⟩ := map_some_of h
  cases h
  refine h0 _ _ _ _ _ _ _ _ e h2 _ fun v I1 H1 g1 w1 r1 => ?_
  refine h1 _ _ _ _ _ _ _ _ (e.grow g1 w1) h3 _ fun u I2 H2 g2 w2 r2 => ?_
  unfold dgetTD at h4
  split at h4
  · rename_i yy es hx
    have hx : x = .dT es := hx
    subst hx
    obtain ⟨k, h5, h6⟩ := bind_some_of h4
    obtain ⟨b, rfl, hb⟩ := rowOf_rep r2 h5
    cases r1 with
    | dT hI rs =>
      obtain ⟨v, h7, h8⟩ := (rs.mono g2.s1).look h6
      refine ⟨_, b, _, _, k, v, rfl, rfl, ⟨g2.s2.get (g2.s1 _ _ hI) (fun _ z => nomatch z), fun q hq => g2.s2.sqT ((rs.mono g2.s1).sq q hq)⟩, g2.s2.sqT hb, h7, q _ I2 H2 (g1.tr w1 g2) w2 h8⟩
  · cases h4
theorem ee_dgetT {X : Cx} {o i : Expr} {td ty : TE} {dd dy : Dn} {pos : Pos} {k : Nat} (hr : Room k X.A) (ho : EE X o td dd) (hi : EE X i ty dy) (hs : NoSl i := by exact fun _ _ => rfl) : EE X (.Subscript o i pos) (tDGetT X.kx td ty) (dOp dgetTD dd dy) :=
  ⟨pe_dgetT (hu_of hr) ho.p hi.p hs, sn_dgetT ho.s hi.s⟩

/-! told.get(row, x) -/
def tDGet2T (K : Kx) (td ty tx : TE) : TE := fun σ H Q => td σ H fun x H1 => ∃ a ks vs, x = .ref a ∧ DtR K H1 a ks vs ∧ ty σ H1 fun y H2 => tx σ H2 fun z H3 => ∃ b ks' vs' k, y = .ref b ∧ DtR K H3 a ks' vs' ∧ SqT K H3 b (k.map V.str) ∧ Q ((lookV ks' vs' k).getD z) H3
theorem pe_dget2T {X : Cx} {o e f : Expr} {apos cpos : Pos} {td ty tx : TE} (hu : X.A.units + 1 < cLine) (ho : PE X o td) (he : PE X e ty) (hf : PE X f tx) (m : M2 X o "get" apos e f cpos) : PE X (.Call (.Attribute o "get" apos) [e, f] [] cpos) (tDGet2T X.kx td ty tx) := by
  refine ⟨fun pins s σ H Q I h => ?_⟩
  refine wpAny_Call_method m.base m.few m.line PySem.F.plainAttrs_dict PySem.F.slot_dict_get PySem.F.type_dict_get (thn (ho.run pins s σ H _ I h) fun u s1 ⟨x, H1, I1, rx, a, ks, vs, ex, d, q1⟩ => ?_)
  subst ex
  obtain rfl : u = Value.ref a := rx
  obtain ⟨hd, xs, dd, rel⟩ := dtr_of I1 d
  refine ⟨dd.typeIs, fun b q => ?_, ?_⟩
  · cases q
    obtain ⟨ob, _, _, h1, h2, _⟩ := dd
    exact ⟨ob, h1, h2.2.1⟩
  rw [m.trees]
  refine Calls.callWith_builtin rfl (Calls.evalArgs_plain (Calls.spliced_cons (thn (he.run pins s1 σ H1 _ I1 q1) fun iv s2 ⟨y, H2, I2, ry, q2⟩ =>
    Calls.spliced_cons (thn (hf.run pins s2 σ H2 _ I2 q2) fun fv s3 ⟨z, H3, I3, rz, b, ks', vs', k, ey, g, hb, q3⟩ => Calls.spliced_nil ?_))))
  subst ey
  obtain rfl : iv = Value.ref b := ry
  obtain ⟨hd3, xs3, dd3, rel3⟩ := dtr_of I3 g
  refine call_meetsIn PySem.F.slot_dict_get dd3.typeIs PySem.F.entry_dict_get (PySem.F.args_dict_get_3 _ _ _) (meetsH_dict_get_default (tupleKind (mixKind X.prog X.w)) a b hd3 fv) ⟨tupleKind_room_in1 hu, _, xs3, key_sq I3 hb, dd3, ?_⟩
  exact ⟨_, H3, I3.tok _, (rel3 k).getD rz, q3⟩
def dget2TD (d k x : D) : Option D := match d with
  | .dT es => (rowOf k).map fun ks => (lookD es ks).getD x
  | _ => none
def dGet2T (dd dy dx : Dn) : Dn := fun ρ s => (dd ρ s).bind fun p => (dy ρ p.2).bind fun q => (dx ρ q.2).bind fun r => (dget2TD p.1 q.1 r.1).map fun z => (z, r.2)
theorem sn_dget2T {K : Kx} {td ty tx : TE} {dd dy dx : Dn} (h0 : SndE K td dd) (h1 : SndE K ty dy) (h2 : SndE K tx dx) : SndE K (tDGet2T K td ty tx) (dGet2T dd dy dx) := fun c I H σ ρ s d s' e h Q q => by
  obtain ⟨⟨x, s1⟩, ha, h⟩ := bind_some_of h
  obtain ⟨⟨y, s2⟩, hb, h⟩ := bind_some_of h
  obtain ⟨⟨t, s3⟩, hc, h⟩ := bind_some_of h
  obtain ⟨z, h4, h⟩ := map_some_of h
  cases h
  unfold dget2TD at h4
  split at h4
  · rename_i es hx
    have hx : x = .dT es := hx
    subst hx
    obtain ⟨k, h5, rfl⟩ := map_some_of h4
    refine h0 _ _ _ _ _ _ _ _ e ha _ fun v I1 H1 g1 w1 r1 => ?_
    cases r1 with
    | dT hI rs =>
      refine ⟨_, _, _, rfl, ⟨g1.s2.get hI (fun _ z => nomatch z), fun q hq => g1.s2.sqT (rs.sq q hq)⟩, ?_⟩
      refine h1 _ _ _ _ _ _ _ _ (e.grow g1 w1) hb _ fun u I2 H2 g2 w2 r2 => ?_
      have g12 := g1.tr w1 g2
      obtain ⟨b, rfl, hq⟩ := rowOf_rep r2 h5
      refine h2 _ _ _ _ _ _ _ _ (e.grow g12 w2) hc _ fun w I3 H3 g3 w3 r3 => ?_
      have rs3 := (rs.mono g2.s1).mono g3.s1
      refine ⟨b, _, _, k, rfl, ⟨g3.s2.get (g3.s1 _ _ (g2.s1 _ _ hI)) (fun _ z => nomatch z), fun q hq => g3.s2.sqT (rs3.sq q hq)⟩, g3.s2.sqT (sb_sqT g3.s1 hq), ?_⟩
      cases hl : lookD es k with
      | some d1 =>
        obtain ⟨v1, h5, h6⟩ := rs3.look hl
        rw [h5]
        rw [hl] at q
        exact q _ I3 H3 (g12.tr w2 g3) w3 h6
      | none =>
        rw [rs3.none hl]
        rw [hl] at q
        exact q _ I3 H3 (g12.tr w2 g3) w3 r3
  · cases h4
theorem ee_dget2T {X : Cx} {j : Nat} {o e f : Expr} {apos cpos : Pos} {td ty tx : TE} {dd dy dx : Dn} (hr : Room j X.A) (ho : EE X o td dd) (he : EE X e ty dy) (hf : EE X f tx dx) (m : M2 X o "get" apos e f cpos := by exact ⟨rfl, by rfl, by decide, rfl⟩) :
    EE X (.Call (.Attribute o "get" apos) [e, f] [] cpos) (tDGet2T X.kx td ty tx) (dGet2T dd dy dx) := ⟨pe_dget2T (hu_of hr) ho.p he.p hf.p m, sn_dget2T ho.s he.s hf.s⟩

/-! dict(zip(rows, answers)) -/
def tDictZip (K : Kx) (ta : TA) : TE := fun σ H Q => ta σ H fun zs H1 => ∃ (x y : V) (ks : List (List Str × Addr)) (us : List V), zs = [x, y] ∧ ItV K H1 x (ks.map fun k => V.ref k.2) ∧ ItV K H1 y us ∧ us.length = ks.length ∧ (∀ k ∈ ks, SqT K H1 k.2 (k.1.map V.str)) ∧
  (ks.map fun k => k.1).Nodup ∧ ks.length ≤ 1000 ∧ ∀ T, H1 T = none → Q (.ref T) (upd H1 T (DTo K.P K.w T ks us))
def pairsOf : List (List Str × Addr) → List Value → List (List Key × Addr × Value)
  | k :: ks, u :: us => (k.1.map Sum.inr, k.2, u) :: pairsOf ks us
  | _, _ => []
theorem pairsOf_get : ∀ {ks : List (List Str × Addr)} {us : List Value} {i : Nat} {k : List Str × Addr} {u : Value}, ks[i]? = some k → us[i]? = some u → (pairsOf ks us)[i]? = some (k.1.map Sum.inr, k.2, u)
  | [], _, _, _, _, h, _ => by simp at h
  | _ :: _, [], _, _, _, _, h => by simp at h
  | q :: ks, v :: us, 0, k, u, h, g => by
    simp at h g
    subst h g
    rfl
  | q :: ks, v :: us, i + 1, k, u, h, g => by
    show (pairsOf ks us)[i]? = _
    exact pairsOf_get (by simpa using h) (by simpa using g)
theorem pairsOf_len : ∀ {ks : List (List Str × Addr)} {us : List Value}, us.length = ks.length → (pairsOf ks us).length = ks.length
  | [], _, _ => rfl
  | _ :: _, [], h => by simp at h
  | q :: ks, v :: us, h => by
    show (pairsOf ks us).length + 1 = ks.length + 1
    rw [pairsOf_len (by simpa using h)]
theorem pairsOf_keys : ∀ {ks : List (List Str × Addr)} {us : List Value}, us.length = ks.length → (pairsOf ks us).map (fun x => (x.1, x.2.1)) = ks.map fun k => (k.1.map Sum.inr, k.2)
  | [], _, _ => rfl
  | _ :: _, [], h => by simp at h
  | q :: ks, v :: us, h => by
    show _ :: (pairsOf ks us).map _ = _
    rw [pairsOf_keys (by simpa using h)]; rfl
theorem pairsOf_vals : ∀ {ks : List (List Str × Addr)} {us : List Value}, us.length = ks.length → (pairsOf ks us).map (fun x => x.2.2) = us
  | [], [], _ => rfl
  | [], _ :: _, h => by simp at h
  | _ :: _, [], h => by simp at h
  | q :: ks, v :: us, h => by
    show v :: (pairsOf ks us).map _ = _
    rw [pairsOf_vals (by simpa using h)]
theorem pe_dictZip {X : Cx} {e e2 : Expr} {ta : TA} {j : Nat} {p p2 q pos : Pos} (hr : Room j X.A) (hc : X.calm = true) (hg : Gl X "dict") (hm : X.mg "dict" = none) (hg2 : Gl X "zip") (hm2 : X.mg "zip" = none) (ha : PA X [e, e2] ta)
    (na : starEach [.Call (.Name "zip" p2) [e, e2] [] q] X.env = (false, eval (.Call (.Name "zip" p2) [e, e2] [] q) X.env) :: starEach [] X.env := by rfl)
    (hs : starEach [e, e2] X.env = (false, eval e X.env) :: starEach [e2] X.env := by rfl) (hpl : (backTo q (starEach [e2] X.env)).any (fun z => z.1) = false := by rfl) :
    PE X (.Call (.Name "dict" p) [.Call (.Name "zip" p2) [e, e2] [] q] [] pos) (tDictZip X.kx ta) := by
  refine ⟨fun pins s σ H Q I h => Call_ (ld_blt I hg hm PyProof.Rows.boot_dict (PyProof.Rows.callWith_type1 (PyProof.Rows.args_cons (Call_ (ld_blt I hg2 hm2 PyProof.Rows.boot_zip (PyProof.Rows.callWith_type1 (thn (ha.run q pins s σ H _ I h) fun zs s1 z => ?_) hs hpl))) na) na rfl))⟩
  obtain ⟨ws, H1, I1, r1, x, y, ks, us, ex, hx, hy, hl, hk, hn, hz, q1⟩ := z
  subst ex
  cases r1 with
  | @cons _ v1 _ _ ra r1 => cases r1 with
    | @cons _ v2 _ _ rb r1 =>
      cases r1
      obtain ⟨l1, o1, B1, its1, St1, rfl, ri1, lt1, bg1, b1, dr1, st1, lv1⟩ := itv_begins I1 hx
      obtain ⟨l2, o2, B2, its2, St2, rfl, ri2, lt2, bg2, b2, dr2, st2, lv2⟩ := itv_begins I1 hy
      obtain rfl : v1 = Value.ref l1 := ra
      obtain rfl : v2 = Value.ref l2 := rb
      have n1 : its1.length = ks.length := by rw [← ri1.length, List.length_map]
      have n2 : its2.length = ks.length := by rw [← ri2.length, hl]
      refine zip_begins2 bg1 bg2 b1 b2 fun h' hzip hTI hTO g1 g2 hsz hkp => PyProof.Rows.args_nil ?_
      have I2 : Inv X pins σ H1 { s1 with heap := h' } := I1.kept (t' := s1.toks) hkp
      have S := zip_sep2 (N := s1.heap.objs.size) (fp1 := [l1]) (fp2 := [l2]) (by simpa using lt1) (by simpa using lt2)
      have PA1 := zipArg (prog := X.prog) (w := X.w) S (fun A hA => dr1 s1.heap.objs.size A hA (Nat.ne_of_lt lt1)) (fun A hA => dr2 (s1.heap.objs.size + 1) A hA (Nat.ne_of_lt (Nat.lt_succ_of_lt lt2))) (fun i h st => lv1 _ i h st) (fun i h st => lv2 _ i h st)
      have hmin : min its1.length its2.length = ks.length := by rw [n1, n2]; exact Nat.min_self _
      refine call_dict_pairsH (ps := pairsOf ks its2) (knd := tupleKind (mixKind X.prog X.w)) PA1 (I1.ok.hd hc) ?_ ⟨hzip, hTI, ⟨_, _, hTO⟩, st1 _ _ g1 (bg1.keeps _ _ b1 hkp), st2 _ _ g2 (bg2.keeps _ _ b2 hkp)⟩ ⟨?_, ?_⟩ ?_ ?_ ?_
      · show X.A.in1.in1.units < cLine
        have := hr.units
        show X.A.units + 1 + 1 < cLine
        omega
      · rw [hmin, pairsOf_len (n2.trans rfl)]
      · intro i key v hrel
        obtain ⟨e1, e2⟩ := hrel
        have hi : i < ks.length := by
          rw [← n2]
          exact (List.getElem?_eq_some_iff.mp e2).1
        have hki : ks[i]? = some ks[i] := List.getElem?_eq_getElem hi
        have hv : (ks.map fun k => V.ref k.2)[i]? = some (V.ref ks[i].2) := by rw [List.getElem?_map, hki]; rfl
        obtain ⟨u, hu, ru⟩ := ri1.get hv
        rw [hu] at e1
        cases e1
        exact ⟨_, ks[i].2, pairsOf_get hki e2, ru⟩
      · intro h'' hk'' x hx
        have hm : (x.1, x.2.1) ∈ ks.map (fun k => (k.1.map Sum.inr, k.2)) := by rw [← pairsOf_keys n2]; exact List.mem_map_of_mem hx
        obtain ⟨q, hq, eq⟩ := List.mem_map.mp hm
        have e1 : x.1 = q.1.map Sum.inr := (congrArg (fun z => z.1) eq).symm
        have e2 : x.2.1 = q.2 := (congrArg (fun z => z.2) eq).symm
        rw [e1, e2]
        refine tk_at (key_sq I1 (hk q hq)) fun o ho => ?_
        have hlt : q.2 < s1.heap.objs.size := Heap.lt_size ho
        refine hk'' q.2 o ?_ ?_ (hkp _ _ ho)
        · rw [hsz]; exact (far hlt).2.2.2.2
        · intro hm
          simp only [List.mem_cons, List.not_mem_nil, or_false] at hm
          obtain ⟨f1, f2, f3, f4, _⟩ := far hlt
          rcases hm with z | z | z | z
          · exact f1 z
          · exact f2 z
          · exact f3 z
          · exact f4 z
      · rw [hmin]; exact Nat.le_of_lt (small1000 hz)
      · intro h'' tk hd hkp2
        rw [hsz] at hd ⊢
        have nd : ((pairsOf ks its2).map fun x => x.1).Nodup := by
          have e : (pairsOf ks its2).map (fun x => x.1) = (ks.map fun k => k.1).map (List.map (Sum.inr : Str → Key)) := by
            have := congrArg (List.map fun z : List Key × Addr => z.1) (pairsOf_keys (ks := ks) (us := its2) n2)
            rw [List.map_map, List.map_map] at this
            rw [List.map_map]
            exact this
          rw [e]
          exact List.pairwise_map.mpr (List.Pairwise.imp (fun h z => h (inr_inj z)) hn)
        rw [storedAllH_nil_of_nodup _ nd] at hd
        have kp : ∀ b o, s1.heap.get? b = some o → h''.get? b = some o := fun b o e => by
          have hlt : b < s1.heap.objs.size := Heap.lt_size e
          refine hkp2 b o (fun hm => ?_) (hkp _ _ e)
          simp only [List.mem_cons, List.not_mem_nil, or_false] at hm
          obtain ⟨f1, f2, f3, f4, _⟩ := far hlt
          rcases hm with z | z | z | z
          · exact f1 z
          · exact f2 z
          · exact f3 z
          · exact f4 z
        obtain ⟨o, es, ep, d1, d2, d3, d4, _, d5⟩ := hd
        have hbig : sysModules < s1.heap.objs.size := I1.big
        have hf : H1 (s1.heap.objs.size + 5) = none := I1.hok.fresh (Nat.le_add_right _ _)
        refine ⟨.ref (s1.heap.objs.size + 5), _, I1.laid (a := s1.heap.objs.size + 5) (t' := tk) kp (Nat.le_add_right _ _) ?_, rfl, q1 _ hf⟩
        refine ⟨⟨?_, Nat.le_of_lt (small1000 hz), pairsOf ks its2, pairsOf_keys n2, by rw [pairsOf_vals n2]; exact ri2, o, es, ep, d1, d2, d3, d4, nd⟩, ⟨o, d1⟩, ?_⟩
        · exact beq_eq_false_iff_ne.mpr (fun z => absurd hbig (Nat.not_lt.mpr (by rw [← z]; exact Nat.le_add_right _ _)))
        · rintro ha hb ⟨z1, z2, xs, z3, z4, o', es', ep', z5, z6⟩ hab
          exact ⟨z1, z2, xs, z3, z4, o', es', ep', hab _ z5, z6⟩
/-- the items of a list or a tuple -/
def seqOf : D → Option (List D)
  | .tup xs => some xs
  | .ktp xs => some xs
  | .lst xs => some xs
  | _ => none
theorem seqOf_rep {K : Kx} {c : Option Addr} {I H : Hp} {v : V} {d : D} {ds : List D} (h : Rep K c I v d) (sb : Sub I H) (e : seqOf d = some ds) : ∃ xs, ItV K H v xs ∧ RepL K c I xs ds := by
  cases h with
  | tup h _ r => cases e; exact ⟨_, ⟨_, rfl, .inr (sb.sqT (.inl (.inr ⟨_, h⟩)))⟩, r⟩
  | ktp h r => cases e; exact ⟨_, ⟨_, rfl, .inr (sb.sqT h)⟩, r⟩
  | lst h r => cases e; exact ⟨_, ⟨_, rfl, .inl (.of (sb.lst h))⟩, r⟩
  | _ => cases e
def rowsOf : List D → Option (List (List Str))
  | [] => some []
  | d :: ds => (rowOf d).bind fun k => (rowsOf ds).map fun ks => k :: ks
theorem rowsOf_rep {K : Kx} {c : Option Addr} {I : Hp} : ∀ {vs : List V} {ds : List D} {rs : List (List Str)}, RepL K c I vs ds → rowsOf ds = some rs → ∃ ks : List (List Str × Addr), ks.map (fun k => k.1) = rs ∧ vs = ks.map (fun k => V.ref k.2) ∧ ∀ k ∈ ks, SqT K I k.2 (k.1.map V.str)
  | _, _, _, .nil, h => by cases h; exact ⟨[], rfl, rfl, fun _ h => nomatch h⟩
  | _, _, _, .cons a r, h => by
    obtain ⟨k, h1, h⟩ := bind_some_of h
    obtain ⟨rs, h2, rfl⟩ := map_some_of h
    obtain ⟨b, rfl, hb⟩ := rowOf_rep a h1
    obtain ⟨ks, rfl, rfl, hk⟩ := rowsOf_rep r h2
    refine ⟨(k, b) :: ks, rfl, rfl, fun q hq => ?_⟩
    rcases List.mem_cons.mp hq with e | hq
    · subst e; exact hb
    · exact hk q hq
def dDictZip (ax : Da) : Dn := fun ρ s => (ax ρ s).bind fun p => match p.1 with
  | [d, e] => (seqOf d).bind fun ds => (rowsOf ds).bind fun rs => (seqOf e).bind fun es => if es.length = rs.length ∧ rs.Nodup ∧ rs.length ≤ 1000 then some (.dT (rs.zip es), p.2) else none
  | _ => none
theorem repT_zip {K : Kx} {c : Option Addr} {I : Hp} : ∀ {ks : List (List Str × Addr)} {us : List V} {es : List D}, RepL K c I us es → es.length = ks.length → (∀ k ∈ ks, SqT K I k.2 (k.1.map V.str)) → RepT K c I ks us ((ks.map fun k => k.1).zip es)
  | [], _, _, .nil, _, _ => .nil
  | [], _, _, .cons _ _, e, _ => by simp at e
  | _ :: _, _, _, .nil, e, _ => by simp at e
  | k :: ks, _, _, .cons a r, e, h => .cons (h k List.mem_cons_self) a (repT_zip r (by simpa using e) fun q hq => h q (List.mem_cons_of_mem _ hq))
theorem sn_dictZip {K : Kx} {ta : TA} {ax : Da} (h1 : SndA K ta ax) : SndE K (tDictZip K ta) (dDictZip ax) := fun c I H σ ρ s d s' e h Q q => by
  obtain ⟨⟨x, s1⟩, h2, h⟩ := bind_some_of h
  refine h1 _ _ _ _ _ _ _ _ e h2 _ fun v I1 H1 g1 w1 r1 => ?_
  split at h
  · rename_i d f hd
    have hd : x = [d, f] := hd
    subst hd
    obtain ⟨ds, h3, h⟩ := bind_some_of h
    obtain ⟨rs, h4, h⟩ := bind_some_of h
    obtain ⟨es, h5, h⟩ := bind_some_of h
    split at h
    · rename_i hh
      obtain ⟨hl, hn, hz⟩ := hh
      cases h
      cases r1 with
      | cons ra r => cases r with
        | cons rb r =>
          cases r
          obtain ⟨xs, hx, rx⟩ := seqOf_rep ra g1.s2 h3
          obtain ⟨us, hu, ru⟩ := seqOf_rep rb g1.s2 h5
          obtain ⟨ks, rfl, rfl, hk⟩ := rowsOf_rep rx h4
          rw [List.length_map] at hl hz
          refine ⟨_, _, ks, us, rfl, hx, hu, by rw [ru.length, hl], fun k hk' => g1.s2.sqT (hk k hk'), hn, hz, fun T hT => ?_⟩
          have g := Gr.new (o := DTo K.P K.w T ks us) g1.s2 hT
          refine q _ _ _ (g1.tr w1 g.up) ?_ (.dT upd_same (repT_zip (ru.mono g.s1) hl fun k hk' => sb_sqT g.s1 (hk k hk')))
          exact w1.gr g.up
    · cases h
  · cases h
theorem ee_dictZip {X : Cx} {e e2 : Expr} {ta : TA} {ax : Da} {j : Nat} {p p2 q pos : Pos} (hr : Room j X.A) (hc : X.calm = true) (hg : Gl X "dict") (hm : X.mg "dict" = none) (hg2 : Gl X "zip") (hm2 : X.mg "zip" = none) (ha : EA X [e, e2] ta ax)
    (na : starEach [.Call (.Name "zip" p2) [e, e2] [] q] X.env = (false, eval (.Call (.Name "zip" p2) [e, e2] [] q) X.env) :: starEach [] X.env := by rfl)
    (hs : starEach [e, e2] X.env = (false, eval e X.env) :: starEach [e2] X.env := by rfl) (hpl : (backTo q (starEach [e2] X.env)).any (fun z => z.1) = false := by rfl) :
    EE X (.Call (.Name "dict" p) [.Call (.Name "zip" p2) [e, e2] [] q] [] pos) (tDictZip X.kx ta) (dDictZip ax) := ⟨pe_dictZip hr hc hg hm hg2 hm2 ha.p na hs hpl, sn_dictZip ha.s⟩
end Dl
end
section
set_option Elab.async false
set_option linter.all false
set_option maxRecDepth 100000
set_option maxHeartbeats 4000000
namespace Dl
open PySem PySem.Spec PyProof.Rows L2 StX RZ
/-! text.split(sep) -/
def rSplitS : V → List V → Hp → VK → Prop := fun x xs H Q => ∃ a b, x = .str a ∧ xs = [.str b] ∧ (b.length == 0) = false ∧ a.length + 2 ≤ sizeLine ∧ rNewStrs (Txt.split a b) H Q
def splitSD : Str → List D → Option D
  | x, [.str y] => if (y.length == 0) = false ∧ x.length ≤ 1000000 then some (.lst ((Txt.split x y).map D.str)) else none
  | _, _ => none
theorem sm_split {K : Kx} : SndMS K rSplitS splitSD := fun c I H x xs ds z s rx h Q q => by
  unfold splitSD at h
  split at h
  · rename_i y
    split at h
    · rename_i hl
      cases h
      cases rx with
      | cons a r =>
        cases r
        cases a
        refine ⟨_, y, rfl, rfl, hl.1, Nat.le_trans (Nat.add_le_add_right hl.2 2) (by decide), fun p hp => ?_⟩
        have g := Gr.new (o := .lst ((Txt.split x y).map V.str)) s hp
        exact q _ _ _ g (.lst upd_same (RepL.strs _))
    · cases h
  · cases h
/-! a, b = x, {} -/
def dParO2 (i j : Nat) (da db : Dn) : Ds := fun ρ s => (da ρ s).bind fun p => (db ρ p.2).map fun q => (.nx ((ρ.set i (.im p.1)).set j (.ow q.1)), q.2)
theorem ss_parO2 {K : Kx} {t1 t2 : TE} {da db : Dn} (i j : Nat) (h1 : SndE K t1 da) (h2 : SndF K t2 db) : SndS K (tPar i j (tCons t1 (tCons t2 tNil))) (dParO2 i j da db) := fun c I0 H0 I H σ ρ s o s' e h D q => by
  obtain ⟨⟨x, s1⟩, ha, h⟩ := bind_some_of h
  obtain ⟨⟨y, s2⟩, hb, h⟩ := map_some_of h
  cases h
  refine h1 _ _ _ _ _ _ _ _ e.env ha _ fun v I1 H1 g1 w1 r1 => ?_
  have e1 := e.grow g1 w1
  refine h2 _ _ _ _ _ _ _ _ e1.env hb _ fun p I2 H2 g2 w2 o2 hp => ?_
  refine ⟨_, _, rfl, q _ _ _ (((e1.grow g2 w2).setI (r1.mono g2.s1) i).setO o2 (fun k d a b => ?_) (e1.old hp) j)⟩
  by_cases hk : k = i
  · subst hk
    rw [List.getElem?_set] at b
    simp only [if_true] at b
    split at b
    · cases b
    · cases b
  · rw [List.getElem?_set_ne (Ne.symm hk)] at a b
    obtain ⟨p2, hp2, o3⟩ := e1.env.ow b
    rw [a] at hp2
    cases hp2
    exact o3.some_ hp
theorem ss_asgO2 {K : Kx} {t1 t2 : TE} {da db : Dn} (i j : Nat) (h1 : SndE K t1 da) (h2 : SndF K t2 db) : SndS K (tAsg (tTupF (tCons t1 (tCons t2 tNil))) (gTup K 2 (gCons (gName i) (gCons (gName j) gNil)))) (dParO2 i j da db) := fun c I0 H0 I H σ ρ s o s' e h D q => by
  obtain ⟨⟨x, s1⟩, ha, h⟩ := bind_some_of h
  obtain ⟨⟨y, s2⟩, hb, h⟩ := map_some_of h
  cases h
  refine h1 _ _ _ _ _ _ _ _ e.env ha _ fun v I1 H1 g1 w1 r1 => ?_
  have e1 := e.grow g1 w1
  refine h2 _ _ _ _ _ _ _ _ e1.env hb _ fun p I2 H2 g2 w2 o2 hp => ⟨(by decide : 2 ≤ sizeLine), fun T ob hT ho => ?_⟩
  have g3 := Gr.new (o := .frz ob (.tup [v, .ref p])) g2.s2 hT
  have e3 := (e1.grow g2 w2).grow (g3.up (c := c)) (w2.gr g3)
  refine ⟨T, [v, .ref p], rfl, .inl (.inr ⟨ob, upd_same⟩), rfl, v, [.ref p], rfl, .ref p, [], rfl, rfl, q _ _ _ ((e3.setI ((r1.mono g2.s1).mono g3.s1) i).setO (o2.grow (g3.up (c := c))) (fun k d a b => ?_) (e1.old hp) j)⟩
  by_cases hk : k = i
  · subst hk
    rw [List.getElem?_set] at b
    simp only [if_true] at b
    split at b
    · cases b
    · cases b
  · rw [List.getElem?_set_ne (Ne.symm hk)] at a b
    obtain ⟨p2, hp2, o3⟩ := e1.env.ow b
    rw [a] at hp2
    cases hp2
    exact o3.some_ hp
section
variable {X : Cx} {e e1 e2 k v : Expr} {te ty tv t1 t2 : TE} {da dk dv db : Dn} {pos pos' : Pos}
theorem es_parO2 {i j : Nat} {x y : Str} {px py pt pt2 : Pos} {kt k2 : Nat} (hc : X.calm = true) (hN : X.N.Nodup) (hi : X.N[i]? = some x) (hj : X.N[j]? = some y) (hij : i ≠ j)
    (hx : X.env.scope.names.lookup x = some .local) (hy : X.env.scope.names.lookup y = some .local) (h1 : EE X e1 t1 da) (h2 : EF X e2 t2 db)
    (hw : swappedStores [.Tuple [.Name x px, .Name y py] kt pt] (.Tuple [e1, e2] k2 pt2) X.env = pure (some [x, y]) := by rfl)
    (hs : swapsWithSole [.Tuple [.Name x px, .Name y py] kt pt] (.Tuple [e1, e2] k2 pt2) pos.line X.env = pure false := by rfl) (hs1 : starEach [e1, e2] X.env = (false, eval e1 X.env) :: starEach [e2] X.env := by rfl) (hs2 : starEach [e2] X.env = (false, eval e2 X.env) :: starEach [] X.env := by rfl) :
    ES X (.Assign [.Tuple [.Name x px, .Name y py] kt pt] (.Tuple [e1, e2] k2 pt2) pos) (tPar i j (tCons t1 (tCons t2 tNil))) (dParO2 i j da db) := ⟨ps_par hc hN hi hj hij hx hy (pa_cons h1.p (pa_cons h2.p pa_nil hs2) hs1) hw hs, ss_parO2 i j h1.s h2.s⟩
theorem es_asgO2 {i j : Nat} {x y : Str} {px py pt pt2 : Pos} {kt k2 : Nat} (hc : X.calm = true) (hN : X.N.Nodup) (hi : X.N[i]? = some x) (hj : X.N[j]? = some y) (hx : Loc X.env.scope x) (hy : Loc X.env.scope y) (h1 : EE X e1 t1 da) (h2 : EF X e2 t2 db)
    (hf : X.fn x = true ∨ X.env.scope.names.lookup x = some .local := by first | exact .inl rfl | exact .inr rfl) (hf2 : X.fn y = true ∨ X.env.scope.names.lookup y = some .local := by first | exact .inl rfl | exact .inr rfl)
    (hs1 : starEach [e1, e2] X.env = (false, eval e1 X.env) :: starEach [e2] X.env := by rfl) (hs2 : starEach [e2] X.env = (false, eval e2 X.env) :: starEach [] X.env := by rfl)
    (hs : swapsWithSole [.Tuple [.Name x px, .Name y py] kt pt] (.Tuple [e1, e2] k2 pt2) pos.line X.env = pure false := by rfl) (hw : swappedStores [.Tuple [.Name x px, .Name y py] kt pt] (.Tuple [e1, e2] k2 pt2) X.env = pure none := by rfl)
    (hn : (assignEach [.Name x px, .Name y py] X.env).length = 2 := by rfl) (hst : (assignEach [.Name x px, .Name y py] X.env).findIdx? (fun z => z.1) = none := by rfl)
    (ha1 : (assignEach [.Name x px, .Name y py] X.env).map (fun z => z.2) = assign (.Name x px) X.env :: (assignEach [.Name y py] X.env).map (fun z => z.2) := by rfl) (ha2 : (assignEach [.Name y py] X.env).map (fun z => z.2) = assign (.Name y py) X.env :: (assignEach [] X.env).map (fun z => z.2) := by rfl)
    (ha3 : (assignEach [.Tuple [.Name x px, .Name y py] kt pt] X.env).map (fun z => z.2) = [assign (.Tuple [.Name x px, .Name y py] kt pt) X.env] := by rfl) :
    ES X (.Assign [.Tuple [.Name x px, .Name y py] kt pt] (.Tuple [e1, e2] k2 pt2) pos) (tAsg (tTupF (tCons t1 (tCons t2 tNil))) (gTup X.kx 2 (gCons (gName i) (gCons (gName j) gNil)))) (dParO2 i j da db) :=
  ⟨ps_asg (pe_tupF (pa_cons h1.p (pa_cons h2.p pa_nil hs2) hs1)) (pg_tup hc (pgs_cons (pg_name hN hi hx hf) (pgs_cons (pg_name hN hj hy hf2) pgs_nil ha2) ha1) hn hst) hs hw ha3, ss_asgO2 i j h1.s h2.s⟩
end
end Dl
end
section
set_option Elab.async false
set_option linter.all false
set_option maxRecDepth 100000
set_option maxHeartbeats 4000000
namespace Dl
open PySem PySem.Spec PyProof.Rows L2 StX RZ
/-! list(zip(..)): pairs, each a new tuple; dict(..) of such a list -/
theorem zip_no_len : typeLookup (.type "zip") "__len__" = pure none := by rw [typeLookup_type, builtinLookup_eq_fast]; kernel_rfl
theorem zip_no_hint : typeLookup (.type "zip") "__length_hint__" = pure none := by rw [typeLookup_type, builtinLookup_eq_fast]; kernel_rfl
/-- what the new list holds: the i-th pair's tuple -/
def PAcc (Rel : Nat → Value → Value → Prop) (S : Addr) (wr : List Addr) (acc : Array Value) (i : Nat) (h : Heap) : Prop := acc.size = i ∧ ∀ j v, acc[j]? = some v → ∃ T k u, v = .ref T ∧ Rel j k u ∧ IsTupOf2 h T k u ∧ T ≠ S ∧ T ∉ wr
/-- an iterator that gives out new pairs, seen from a list at S that is being filled -/
structure PSrc (prog : Program) (w : World) (A : Around) (I S : Addr) (wr : List Addr) (n : Nat) (Rel : Nat → Value → Value → Prop) (St : Nat → Heap → Prop) : Prop where
  off : S ∉ wr
  frame : ∀ i h h', St i h → (∀ b o, b ≠ S → h.get? b = some o → h'.get? b = some o) → St i h'
  item : ∀ i (s : Shared) (Q : Option Value → Shared → Prop) (E : Value → Shared → Prop), i < n → St i s.heap → S < s.heap.objs.size →
    (∀ T k v h' tk, Rel i k v → IsTupOf2 h' T k v → T ≠ S → T ∉ wr → St (i + 1) h' → (∀ b o, b ∉ wr → s.heap.get? b = some o → h'.get? b = some o) → Q (some (.ref T)) { s with heap := h', toks := tk }) → wpAny (model prog w) A (pyNext (.ref I)) Q E s
  done : ∀ (s : Shared) (Q : Option Value → Shared → Prop) (E : Value → Shared → Prop), St n s.heap →
    (∀ h' tk, (∀ b o, b ∉ wr → s.heap.get? b = some o → h'.get? b = some o) → Q none { s with heap := h', toks := tk }) → wpAny (model prog w) A (pyNext (.ref I)) Q E s
section
variable {prog : Program} {w : World} {A : Around} {R : Result → Shared → Prop} {I S : Addr} {wr : List Addr} {n : Nat} {Rel : Nat → Value → Value → Prop} {St : Nat → Heap → Prop}
theorem PAcc.keep {acc : Array Value} {i : Nat} {h h' : Heap} (x : PAcc Rel S wr acc i h) (k : ∀ b o, b ≠ S → b ∉ wr → h.get? b = some o → h'.get? b = some o) : PAcc Rel S wr acc i h' := by
  refine ⟨x.1, fun j v e => ?_⟩
  obtain ⟨T, a, u, e1, e2, e3, e4, e5⟩ := x.2 j v e
  exact ⟨T, a, u, e1, e2, k T _ e4 e5 e3, e4, e5⟩
theorem loop_pairs (D : PSrc prog w A.in1 I S wr n Rel St) (hn : n ≤ sizeLine) (res : Value) : ∀ (k i : Nat) (s : Shared) (acc : Array Value) (c : Nat), n - i = k → i ≤ n → St i s.heap → s.heap.get? S = some { cls := .type "list", dict := none, data := .seq acc c, slots := #[] } → PAcc Rel S wr acc i s.heap →
    (∀ h' tk acc' c', h'.get? S = some { cls := .type "list", dict := none, data := .seq acc' c', slots := #[] } → PAcc Rel S wr acc' n h' → (∀ b o, b ≠ S → b ∉ wr → s.heap.get? b = some o → h'.get? b = some o) → R (.ok (.ret res)) { s with heap := h', toks := tk }) →
    codeAny (model prog w) A (.builtin "list.extend.loop" ⟨[.ref S, .ref I, res], []⟩) R s := by
  intro k
  induction k with
  | zero =>
    intro i s acc c hk hi hst hS hacc hR
    have hin : i = n := by omega
    subst hin
    refine codeAny_builtin F.entry_extend_loop ?_
    rw [Around.under_plainId F.plain_extend_loop _]
    show wpAny _ A.in1 (pyNext (.ref I) >>= _) _ _ s
    refine wpAny_bind (D.done s _ _ hst fun h' tk hm => ?_)
    exact wpAny_pure (hR h' tk acc c (hm S _ D.off hS) (hacc.keep fun b o _ h2 e => hm b o h2 e) fun b o _ h2 e => hm b o h2 e)
  | succ k ih =>
    intro i s acc c hk hi hst hS hacc hR
    have hlt : i < n := by omega
    refine codeAny_builtin F.entry_extend_loop ?_
    rw [Around.under_plainId F.plain_extend_loop _]
    show wpAny _ A.in1 (pyNext (.ref I) >>= _) _ _ s
    refine wpAny_bind (D.item i s _ _ hlt hst (Heap.lt_size hS) fun T x y h1 tk hr hT hTS hTw hst' hm => ?_)
    have hS' := hm S _ D.off hS
    show wpAny _ A.in1 (updateSeq S (·.push (.ref T)) >>= _) _ _ _
    refine wpAny_bind ?_
    have oth : ∀ b o, b ≠ S → h1.get? b = some o → (h1.update S (Obj.mapSeq (·.push (Value.ref T)))).get? b = some o := fun b o hb e => (Heap.get?_update_other _ _ (Ne.symm hb)).trans e
    refine wpAny_updateSeq hS' rfl (wpAny_pure ⟨plainId_quiet F.plain_extend_loop _, ih (i + 1) _ (acc.push (.ref T)) _ (by omega) hlt (D.frame _ _ _ hst' fun b o hb e => oth b o hb e) (Heap.get?_update_self _ hS' rfl) ?_ fun h2 tk2 acc' c' hS2 hacc' hm2 => ?_⟩)
      (by rw [hacc.1]; omega) (by show (acc.push (Value.ref T)).size ≤ sizeLine + 1; rw [Array.size_push, hacc.1]; omega)
    · have a1 := hacc.keep (h' := h1.update S (Obj.mapSeq (·.push (Value.ref T)))) fun b o q1 q2 e => oth b o q1 (hm b o q2 e)
      refine ⟨by rw [Array.size_push, a1.1], fun j v hj => ?_⟩
      rw [Array.getElem?_push] at hj
      split at hj
      · rename_i e
        rw [a1.1] at e
        cases hj
        rw [e]
        exact ⟨T, x, y, rfl, hr, oth T _ hTS hT, hTS, hTw⟩
      · exact a1.2 j v hj
    · exact hR h2 tk2 acc' c' hS2 hacc' fun b o q1 q2 e => hm2 b o q1 q2 (oth b o q1 (hm b o q2 e))
/-- list(it), it such an iterator of a type that tells no length -/
theorem call_list_pairs {E : Value → Shared → Prop} {s : Shared} {Q : Value → Shared → Prop} {T : String} (hl : typeLookup (.type T) "__len__" = pure none) (hn0 : typeLookup (.type T) "__length_hint__" = pure none) (h2 : (Value.type T == Value.type "list") = false) (h3 : (Value.type T == Value.type "tuple") = false)
    (hT : ∀ h' : Heap, (∀ b o, s.heap.get? b = some o → h'.get? b = some o) → Shared.TypeIs { s with heap := h' } (.ref I) T) (hI : I < s.heap.objs.size)
    (hself : ∀ (A : Around) (h' : Heap) (Q : Value → Shared → Prop) (E : Value → Shared → Prop), (∀ b o, s.heap.get? b = some o → h'.get? b = some o) → Q (.ref I) { s with heap := h' } → wpAny (model prog w) A (pyIter (.ref I)) Q E { s with heap := h' })
    (D : PSrc prog w A.in1.in1 I s.heap.objs.size wr n Rel St) (hst : ∀ h' : Heap, (∀ b o, s.heap.get? b = some o → h'.get? b = some o) → St 0 h') (hn : n ≤ sizeLine)
    (hQ : ∀ h' tk acc c, h'.get? s.heap.objs.size = some { cls := .type "list", dict := none, data := .seq acc c, slots := #[] } → PAcc Rel s.heap.objs.size wr acc n h' → (∀ b o, b ∉ wr → s.heap.get? b = some o → h'.get? b = some o) → Q (.ref s.heap.objs.size) { s with heap := h', toks := tk }) :
    wpAny (model prog w) A (call (.type "list") [.ref I]) Q E s := by
  have hSI : s.heap.objs.size ≠ I := Nat.ne_of_gt hI
  refine callType_codes (Q₁ := fun obj s₁ => obj = .ref s.heap.objs.size ∧ s₁ = { s with heap := s.heap.push { cls := .type "list", data := .seq #[] } }) F.called_list (F.typeCall_list_1 _) F.entry_list_init
    (code_list_new _ ⟨rfl, rfl⟩) fun obj s₁ h₁ => ?_
  obtain ⟨rfl, rfl⟩ := h₁
  have hS : (s.heap.push { cls := .type "list", data := .seq #[] }).get? s.heap.objs.size = some { cls := .type "list", data := .seq #[] } := Heap.get?_push_size _ rfl
  refine ⟨⟨_, hS, rfl⟩, F.args_list_init_2 _ _, ?_⟩
  show wpAny _ A.in1.in1 (do let old ← Builtin.List.listItems (.ref s.heap.objs.size); Builtin.List.listUpdate (.ref s.heap.objs.size) (fun _ => #[]); letGo old.toList.reverse; Builtin.List.listExtendWith (.ref s.heap.objs.size) (.ref I) .none) _ _ _
  refine wpAny_bind ?_
  unfold Builtin.List.listItems
  refine wpAny_bind (wpAny_seqItems hS rfl (wpAny_pure ?_))
  show wpAny _ A.in1.in1 (updateSeq s.heap.objs.size (fun _ => #[]) >>= fun _ => letGo (#[] : Array Value).toList.reverse >>= fun _ => Builtin.List.listExtendWith (.ref s.heap.objs.size) (.ref I) .none) _ _ _
  refine wpAny_bind (wpAny_updateSeq hS rfl ?_)
  have hS2 := Heap.get?_update_self (Obj.mapSeq (fun _ => (#[] : Array Value))) hS rfl
  generalize hh1 : (s.heap.push { cls := .type "list", data := .seq #[] }).update s.heap.objs.size (Obj.mapSeq (fun _ => (#[] : Array Value))) = h1 at hS2 ⊢
  have k1 : ∀ b o, s.heap.get? b = some o → h1.get? b = some o := fun b o e => by
    rw [← hh1]
    exact (Heap.get?_update_other _ _ (Ne.symm (Nat.ne_of_lt (Heap.lt_size e)))).trans (Heap.get?_push_of_some _ e)
  refine wpAny_bind (wpAny_letGo ?_)
  unfold Builtin.List.listExtendWith
  refine wpAny_bind (wpAny_typeOf (hT h1 k1) ?_)
  have h1f : Builtin.List.listSameRef (.ref s.heap.objs.size) (.ref I) = false := by simp [Builtin.List.listSameRef, hSI]
  simp only [h1f, h2, h3, Bool.or_false, Bool.false_eq_true, if_false]
  refine wpAny_bind (hself _ h1 _ _ k1 ?_)
  refine wpAny_bind (wpAny_holding ?_)
  unfold Builtin.List.listLengthHint
  refine wpAny_bind (wpAny_specialOf (hT h1 k1) hl ?_)
  show wpAny _ A.in1.in1 (specialOf (Value.ref I) (Str.ofString "__length_hint__") >>= _) _ _ _
  refine wpAny_bind (wpAny_specialOf (hT h1 k1) hn0 ?_)
  refine wpAny_pure ?_
  show wpAny _ A.in1.in1 (rule "list.extend.makes-room" >>= fun _ => Builtin.List.listTouch (.ref s.heap.objs.size) >>= fun _ =>
    again (.builtin "list.extend.loop" ⟨[.ref s.heap.objs.size, .ref I, .none], []⟩)) _ _ _
  refine wpAny_bind (wpAny_rule ?_)
  refine wpAny_bind ?_
  show wpAny _ A.in1.in1 (updateSeq s.heap.objs.size (·.push .none) >>= fun _ => updateSeq s.heap.objs.size (·.pop)) _ _ _
  refine wpAny_bind (wpAny_updateSeq hS2 rfl ?_)
  have hS3 := Heap.get?_update_self (Obj.mapSeq (·.push Value.none)) hS2 rfl
  refine wpAny_updateSeq hS3 rfl ?_
  have hS4 := Heap.get?_update_self (Obj.mapSeq (·.pop)) hS3 rfl
  generalize hh2 : (h1.update s.heap.objs.size (Obj.mapSeq (·.push Value.none))).update s.heap.objs.size (Obj.mapSeq (·.pop)) = h2 at hS4 ⊢
  have k2 : ∀ b o, s.heap.get? b = some o → h2.get? b = some o := fun b o e => by
    rw [← hh2]
    exact (Heap.get?_update_other _ _ (Ne.symm (Nat.ne_of_lt (Heap.lt_size e)))).trans ((Heap.get?_update_other _ _ (Ne.symm (Nat.ne_of_lt (Heap.lt_size e)))).trans (k1 b o e))
  refine wpAny_pure ⟨plainId_quiet F.plain_extend_loop _, loop_pairs D hn _ n 0 _ _ _ rfl (Nat.zero_le _) (hst h2 k2) hS4 ⟨rfl, fun j v h => by simp at h⟩ fun h' tk acc c a1 a2 a3 => ?_⟩
  exact ⟨rfl, hQ h' tk acc c a1 a2 fun b o q1 e => a3 b o (Nat.ne_of_lt (Heap.lt_size e)) q1 (k2 b o e)⟩
end

/-- zip over any two is such an iterator -/
theorem zipSrc {prog : Program} {w : World} {A : Around} {S z TI TO i1 i2 : Addr} {fp1 fp2 : List Addr} {n1 n2 : Nat} {P1 P2 : Nat → Value → Prop} {St1 St2 : Nat → Heap → Prop} (Z : ZipSep2 z TI TO i1 i2 fp1 fp2)
    (D1 : ∀ A : Around, A.handled = none → Draws prog w A i1 fp1 n1 P1 St1) (D2 : ∀ A : Around, A.handled = none → Draws prog w A i2 fp2 n2 P2 St2) (hA : A.handled = none) (hS : S ∉ z :: TI :: TO :: (fp1 ++ fp2)) :
    PSrc prog w A z S [z, TO, i1, i2] (min n1 n2) (fun i k v => P1 i k ∧ P2 i v) (fun i h => IsTupOf2 h TI (.ref i1) (.ref i2) ∧ St1 i h ∧ St2 i h ∧ (∃ o, h.get? z = some o) ∧ (∃ o, h.get? TO = some o) ∧
      ((IsZip h z TI TO .none ∧ ∃ a b, IsTupOf2 h TO a b) ∨ ∃ T f oT, IsZipHeld h z TI TO T f ∧ h.get? T = some oT ∧ T ≠ z ∧ T ≠ i1 ∧ T ≠ i2 ∧ T ≠ S)) := by
  have dz : S ≠ z := fun e => hS (by rw [e]; exact List.mem_cons_self)
  have dI : S ≠ TI := fun e => hS (by rw [e]; exact List.mem_cons_of_mem _ List.mem_cons_self)
  have dO : S ≠ TO := fun e => hS (by rw [e]; exact List.mem_cons_of_mem _ (List.mem_cons_of_mem _ List.mem_cons_self))
  have d1 : ∀ b ∈ fp1, b ≠ S := fun b hb e => hS (by rw [← e]; exact List.mem_cons_of_mem _ (List.mem_cons_of_mem _ (List.mem_cons_of_mem _ (List.mem_append_left _ hb))))
  have d2 : ∀ b ∈ fp2, b ≠ S := fun b hb e => hS (by rw [← e]; exact List.mem_cons_of_mem _ (List.mem_cons_of_mem _ (List.mem_cons_of_mem _ (List.mem_append_right _ hb))))
  have hA1 : A.in1.handled = none := by simp [hA]
  exact {
    off := fun hm => by
      have e : S = z ∨ S = TO ∨ S = i1 ∨ S = i2 := by simpa using hm
      rcases e with e | e | e | e
      · exact dz e
      · exact dO e
      · exact d1 i1 Z.mem1 e.symm
      · exact d2 i2 Z.mem2 e.symm
    frame := fun i h1 h2 st k => by
      obtain ⟨hI, a1, a2, ⟨oz, ez⟩, ⟨oO, eO⟩, hz⟩ := st
      refine ⟨k _ _ (Ne.symm dI) hI, (D1 A hA).frame _ _ _ a1 fun b hb o e => k b o (d1 b hb) e, (D2 A hA).frame _ _ _ a2 fun b hb o e => k b o (d2 b hb) e, ⟨_, k _ _ (Ne.symm dz) ez⟩, ⟨_, k _ _ (Ne.symm dO) eO⟩, ?_⟩
      rcases hz with ⟨hz, a, b, hO⟩ | ⟨T, f, oT, hz, gT, r1, r2, r3, r4⟩
      · exact .inl ⟨k _ _ (Ne.symm dz) hz, a, b, k _ _ (Ne.symm dO) hO⟩
      · exact .inr ⟨T, f, oT, k _ _ (Ne.symm dz) hz, k _ _ r4 gT, r1, r2, r3, r4⟩
    item := fun i s1 Q1 E1 hi st hds hQ => by
      obtain ⟨hI, a1, a2, ⟨oz, ez⟩, ⟨oO, eO⟩, hz⟩ := st
      have b1 : i < n1 := Nat.lt_of_lt_of_le hi (Nat.min_le_left ..)
      have b2 : i < n2 := Nat.lt_of_lt_of_le hi (Nat.min_le_right ..)
      have lt : ∀ {c o}, s1.heap.get? c = some o → s1.heap.objs.size ≠ c := fun e => Nat.ne_of_gt (Heap.lt_size e)
      have m1 : s1.heap.objs.size ≠ i1 := let ⟨_, e⟩ := (D1 A hA).live _ _ a1; lt e
      have m2 : s1.heap.objs.size ≠ i2 := let ⟨_, e⟩ := (D2 A hA).live _ _ a2; lt e
      have mw : s1.heap.objs.size ∉ [z, TO, i1, i2] := fun hm => by
        have e : s1.heap.objs.size = z ∨ s1.heap.objs.size = TO ∨ s1.heap.objs.size = i1 ∨ s1.heap.objs.size = i2 := by simpa using hm
        rcases e with e | e | e | e
        · exact lt ez e
        · exact lt eO e
        · exact m1 e
        · exact m2 e
      rcases hz with ⟨hz, a, b, hO⟩ | ⟨T, f, oT, hz, gT, r1, r2, r3, r4⟩
      · refine wpAny_pyNext_zipD2_item Z (D1 _ hA1) (D2 _ hA1) hz hI hO a1 a2 b1 b2 fun x y h' tk p1 p2 q1 q2 q3 q4 q5 q6 k => ?_
        refine hQ s1.heap.objs.size x y h' tk ⟨p1, p2⟩ q5 (Nat.ne_of_gt hds) mw ⟨k _ _ Z.TIz Z.TITO Z.TIi1 Z.TIi2 hI, q3, q4, ⟨_, q1⟩, ?_, .inr ⟨s1.heap.objs.size, false, _, q1, q5, lt hz, m1, m2, Nat.ne_of_gt hds⟩⟩ fun c o hc e => ?_
        · exact ⟨_, q2⟩
        · simp only [List.mem_cons, List.not_mem_nil, or_false, not_or] at hc
          exact k c o hc.1 hc.2.1 hc.2.2.1 hc.2.2.2 e
      · refine zh_next Z (D1 _ hA1) (D2 _ hA1) hz gT hI a1 a2 b1 b2 fun x y h' tk p1 p2 q1 q3 q4 q5 k => ?_
        refine hQ s1.heap.objs.size x y h' tk ⟨p1, p2⟩ q5 (Nat.ne_of_gt hds) mw ⟨k _ _ Z.TIz Z.TIi1 Z.TIi2 hI, q3, q4, ⟨_, q1⟩, ⟨_, k _ _ Z.TOz (fun e => Z.Tf1 (e ▸ Z.mem1)) (fun e => Z.Tf2 (e ▸ Z.mem2)) eO⟩, .inr ⟨T, true, oT, q1, k _ _ r1 r2 r3 gT, r1, r2, r3, r4⟩⟩ fun c o hc e => ?_
        simp only [List.mem_cons, List.not_mem_nil, or_false, not_or] at hc
        exact k c o hc.1 hc.2.2.1 hc.2.2.2 e
    done := fun s1 Q1 E1 st hQ => by
      obtain ⟨hI, a1, a2, _, _, hz⟩ := st
      have e0 : min n1 n2 = n1 ∨ min n1 n2 = n2 := by omega
      rcases hz with ⟨hz, a, b, hO⟩ | ⟨T, f, oT, hz, gT, r1, r2, r3, r4⟩
      · refine wpAny_pyNext_zipD2_end Z (D1 _ hA1) (D2 _ hA1) hz hI hO a1 a2 (Nat.min_le_left ..) (Nat.min_le_right ..) e0 fun h' tk k => hQ h' tk fun c o hc e => ?_
        simp only [List.mem_cons, List.not_mem_nil, or_false, not_or] at hc
        exact k c o hc.1 hc.2.1 hc.2.2.1 hc.2.2.2 e
      · refine zh_done Z (D1 _ hA1) (D2 _ hA1) hz gT hI a1 a2 (Nat.min_le_left ..) (Nat.min_le_right ..) e0 fun h' tk k => hQ h' tk fun c o hc e => ?_
        simp only [List.mem_cons, List.not_mem_nil, or_false, not_or] at hc
        exact k c o hc.1 hc.2.2.1 hc.2.2.2 e }
/-! dict(list(zip(texts, text))) -/
theorem vals_by : ∀ {xs : List V} {us : List Value}, xs.length = us.length → (∀ j, j < us.length → ∃ x u, xs[j]? = some x ∧ us[j]? = some u ∧ RelV x u) → Vals xs us
  | [], [], _, _ => .nil
  | [], _ :: _, h, _ => by simp at h
  | _ :: _, [], h, _ => by simp at h
  | x :: xs, u :: us, h, k => by
    obtain ⟨x', u', e1, e2, r⟩ := k 0 (by simp)
    simp at e1 e2
    subst e1 e2
    exact .cons r (vals_by (by simpa using h) fun j hj => by
      obtain ⟨x', u', e1, e2, r⟩ := k (j + 1) (by simpa using hj)
      exact ⟨x', u', by simpa using e1, by simpa using e2, r⟩)
def chS (y : Str) : List Str := y.cps.toList.map fun k => (⟨#[k]⟩ : Str)
def tDictLZ (K : PySem.W.Frag) (ta : TA) : TE := fun σ H Q => ta σ H fun zs H1 => ∃ (l : Addr) (xs : List Str) (y : Str), zs = [.ref l, .str y] ∧ SqL K H1 l (xs.map V.str) ∧ y.cps.size = xs.length ∧ xs.Nodup ∧ xs.length ≤ 1000 ∧
  ∀ T, H1 T = none → Q (.ref T) (upd H1 T (.dK ((xs.zip (chS y)).map fun p => (Sum.inr p.1, V.str p.2))))
theorem kv_zip : ∀ {xs : List Str} {ys : List Str} {us ws : List Value}, Vals (xs.map V.str) us → Vals (ys.map V.str) ws → xs.length = ys.length → KV ((xs.zip ys).map fun p => ((Sum.inr p.1 : Key), V.str p.2)) ((xs.zip ws).map fun p => ((Sum.inr p.1 : Key), p.2))
  | [], _, _, _, _, _, _ => .nil
  | _ :: _, [], _, _, _, _, h => by simp at h
  | x :: xs, y :: ys, _, _, r, q, h => by
    cases r with
    | cons r1 r => cases q with
      | cons q1 q => exact .cons ⟨rfl, q1⟩ (kv_zip r q (by simpa using h))
theorem pe_dictLZ {X : Cx} {e e2 : Expr} {ta : TA} {j : Nat} {p p1 p2 q q1 pos : Pos} (hr : Room j X.A) (hc : X.calm = true) (hg : Gl X "dict") (hm : X.mg "dict" = none) (hg1 : Gl X "list") (hm1 : X.mg "list" = none) (hg2 : Gl X "zip") (hm2 : X.mg "zip" = none) (ha : PA X [e, e2] ta)
    (na0 : starEach [.Call (.Name "list" p1) [.Call (.Name "zip" p2) [e, e2] [] q] [] q1] X.env = (false, eval (.Call (.Name "list" p1) [.Call (.Name "zip" p2) [e, e2] [] q] [] q1) X.env) :: starEach [] X.env := by rfl)
    (na : starEach [.Call (.Name "zip" p2) [e, e2] [] q] X.env = (false, eval (.Call (.Name "zip" p2) [e, e2] [] q) X.env) :: starEach [] X.env := by rfl)
    (hs : starEach [e, e2] X.env = (false, eval e X.env) :: starEach [e2] X.env := by rfl) (hpl : (backTo q (starEach [e2] X.env)).any (fun z => z.1) = false := by rfl) :
    PE X (.Call (.Name "dict" p) [.Call (.Name "list" p1) [.Call (.Name "zip" p2) [e, e2] [] q] [] q1] [] pos) (tDictLZ X.K ta) := by
  refine ⟨fun pins s σ H Q I h => Call_ (ld_blt I hg hm PyProof.Rows.boot_dict (PyProof.Rows.callWith_type1 (PyProof.Rows.args_cons (Call_ (ld_blt I hg1 hm1 PyProof.Rows.boot_list (PyProof.Rows.callWith_type1 (PyProof.Rows.args_cons (Call_ (ld_blt I hg2 hm2 PyProof.Rows.boot_zip (PyProof.Rows.callWith_type1 (thn (ha.run q pins s σ H _ I h) fun zs s1 z => ?_) hs hpl))) na) na rfl))) na0) na0 rfl))⟩
  obtain ⟨ws, H1, I1, r1, l, xs, y, ex, hq, hy, hn, hz, qq⟩ := z
  subst ex
  cases r1 with
  | @cons _ v1 _ _ ra r1 => cases r1 with
    | @cons _ v2 _ _ rb r1 =>
      cases r1
      obtain rfl : v1 = Value.ref l := ra
      obtain ⟨t, rfl⟩ := rb
      obtain ⟨its, rv, pl, _⟩ := I1.list hq
      have lt1 : l < s1.heap.objs.size := pl.lt
      have n1 : its.length = xs.length := by rw [← rv.length, List.length_map]
      refine zip_begins2 (begins_list l its.toArray) (begins_text y t) pl.isList trivial fun h' hzip hTI hTO g1 g2 hsz hkp => PyProof.Rows.args_nil ?_
      have S := zip_sep2 (N := s1.heap.objs.size) (fp1 := [l]) (fp2 := []) (by simpa using lt1) (by simp)
      have D1 : ∀ A : Around, A.handled = none → Draws X.prog X.w A s1.heap.objs.size [s1.heap.objs.size, l] its.length (fun i v => its[i]? = some v) (fun i h => h.IsListIter s1.heap.objs.size l i ∧ h.IsList l its.toArray) := fun A hA => by
        have D := Draws.list (prog := X.prog) (w := X.w) hA s1.heap.objs.size l (Nat.ne_of_lt lt1) its.toArray
        simpa using D
      have D2 : ∀ A : Around, A.handled = none → Draws X.prog X.w A (s1.heap.objs.size + 1) [s1.heap.objs.size + 1] y.cps.size (fun i v => ∃ c u, y.cps[i]? = some c ∧ v = .str ⟨#[c]⟩ u) (fun i h => h.IsStrIter (s1.heap.objs.size + 1) (strIterType y) y t i) := fun A hA => Draws.text hA _ y t
      have hA := I1.ok.hd hc
      have hI : s1.heap.objs.size + 4 < h'.objs.size := by rw [hsz]; exact Nat.lt_succ_self _
      have fz : h'.objs.size ∉ (s1.heap.objs.size + 4) :: (s1.heap.objs.size + 2) :: (s1.heap.objs.size + 3) :: ([s1.heap.objs.size, l] ++ [s1.heap.objs.size + 1]) := fun hm => by
        rw [hsz] at hm
        have hl : l ≠ s1.heap.objs.size + 5 := (far lt1).2.2.2.2
        simp only [List.mem_cons, List.cons_append, List.nil_append, List.not_mem_nil, or_false] at hm
        rcases hm with e | e | e | e | e | e
        · exact absurd e (show (s1.heap.objs.size + 5 : Nat) ≠ s1.heap.objs.size + 4 by omega)
        · exact absurd e (show (s1.heap.objs.size + 5 : Nat) ≠ s1.heap.objs.size + 2 by omega)
        · exact absurd e (show (s1.heap.objs.size + 5 : Nat) ≠ s1.heap.objs.size + 3 by omega)
        · exact absurd e (show (s1.heap.objs.size + 5 : Nat) ≠ s1.heap.objs.size by omega)
        · exact hl e.symm
        · exact absurd e (show (s1.heap.objs.size + 5 : Nat) ≠ s1.heap.objs.size + 1 by omega)
      have PS := zipSrc (prog := X.prog) (w := X.w) (A := X.A.in1.in1) (S := h'.objs.size) S D1 D2 (by simp [hA]) fz
      have hmin : min its.length y.cps.size = xs.length := by rw [n1, hy]; exact Nat.min_self _
      rw [hmin] at PS
      refine call_list_pairs (s := { s1 with heap := h' }) zip_no_len zip_no_hint (by decide) (by decide) (fun h2 k => ⟨_, k _ _ hzip, rfl⟩) hI (fun A h2 Q E k hq => wpAny_pyIter_zip (k _ _ hzip) hq) PS
        (fun h2 k => ⟨k _ _ hTI, ⟨⟨_, k _ _ g1, rfl, rfl⟩, pl.isList.at fun o e => k l o (hkp _ _ e)⟩, ⟨_, k _ _ g2, rfl, rfl⟩, ⟨_, k _ _ hzip⟩, ⟨_, k _ _ hTO⟩, .inl ⟨k _ _ hzip, _, _, k _ _ hTO⟩⟩) (Nat.le_of_lt (small1000 hz)) fun h2 tk2 acc c2 hS2 hacc hk2 => ?_
      refine PyProof.Rows.args_nil ?_
      -- the new list, its pairs
      have ha0 : acc.size = xs.length := hacc.1
      have hget : ∀ j, j < xs.length → ∃ T k u, acc[j]? = some (.ref T) ∧ its[j]? = some k ∧ (∃ c u0, y.cps[j]? = some c ∧ u = .str ⟨#[c]⟩ u0) ∧ IsTupOf2 h2 T k u := fun j hj => by
        obtain ⟨T, k, u, e1, ⟨e2, e3⟩, e4, _⟩ := hacc.2 j acc[j] (by simp [ha0, hj])
        exact ⟨T, k, u, by rw [← e1]; simp [ha0, hj], e2, e3, e4⟩
      let Ts : Nat → Addr := fun j => match (acc[j]? : Option Value) with
        | some (Value.ref T) => T
        | _ => 0
      let us : List Value := (List.range xs.length).map fun j => match (acc[j]? : Option Value) with
        | some (Value.ref T) => (match h2.get? T with
          | some o => (match o.data with
            | .seq vs _ => vs[1]?.getD .none
            | _ => .none)
          | _ => .none)
        | _ => .none
      have hus : ∀ j, j < xs.length → ∃ T k u, acc[j]? = some (.ref T) ∧ its[j]? = some k ∧ (∃ c u0, y.cps[j]? = some c ∧ u = .str ⟨#[c]⟩ u0) ∧ IsTupOf2 h2 T k u ∧ us[j]? = some u ∧ Ts j = T := fun j hj => by
        obtain ⟨T, k, u, e1, e2, e3, e4⟩ := hget j hj
        refine ⟨T, k, u, e1, e2, e3, e4, ?_, ?_⟩
        · show ((List.range xs.length).map _)[j]? = _
          rw [List.getElem?_map, List.getElem?_range hj]
          show some _ = _
          have e4 : h2.get? T = some { cls := .type "tuple", data := .seq #[k, u] } := e4
          simp only [e1, e4]
          rfl
        · show (match (acc[j]? : Option Value) with
            | some (Value.ref T) => T
            | _ => 0) = T
          rw [e1]
      have lus : us.length = xs.length := by
        show ((List.range xs.length).map _).length = _
        rw [List.length_map, List.length_range]
      have pit : PairItems h2 acc Ts (its.zip us) := by
        have lz : (its.zip us).length = xs.length := by rw [List.length_zip, n1, lus]; exact Nat.min_self _
        refine ⟨by rw [lz]; exact ha0, fun j k v hj => ?_⟩
        have hjl : j < xs.length := by
          have := (List.getElem?_eq_some_iff.mp hj).1
          rw [lz] at this; exact this
        obtain ⟨T, k', u, e1, e2, _, e4, e5, e6⟩ := hus j hjl
        rw [List.getElem?_zip_eq_some] at hj
        obtain ⟨h1, h2'⟩ := hj
        rw [e2] at h1
        rw [e5] at h2'
        cases h1
        cases h2'
        rw [e6]
        exact ⟨e1, .inl ⟨_, e4, rfl, _, rfl⟩⟩
      have lz : (its.zip us).length = xs.length := by rw [List.length_zip, n1, lus]; exact Nat.min_self _
      have rus : Vals ((chS y).map V.str) us := by
        have lc : (chS y).length = xs.length := by
          show (y.cps.toList.map _).length = _
          rw [List.length_map, Array.length_toList, hy]
        refine vals_by (by rw [List.length_map, lc, lus]) fun j hj => ?_
        rw [lus] at hj
        obtain ⟨T, k', u, e1, e2, ⟨c, u0, e3, rfl⟩, e4, e5, e6⟩ := hus j hj
        refine ⟨.str ⟨#[c]⟩, _, ?_, e5, ⟨_, rfl⟩⟩
        show ((y.cps.toList.map fun k => (⟨#[k]⟩ : Str)).map V.str)[j]? = _
        rw [List.getElem?_map, List.getElem?_map, Array.getElem?_toList, e3]; rfl
      refine call_dict_pairs (kvs := (xs.zip us).map fun p => ((Sum.inr p.1 : Key), p.2)) (knd := mixKind X.prog X.w) (PairArg.list (prog := X.prog) (w := X.w) h'.objs.size acc Ts (its.zip us)) hA ⟨⟨_, _, hS2, rfl, rfl, rfl⟩, pit⟩ ⟨?_, fun i key v hrel => ?_⟩ ?_ fun h3 tk3 hd hk3 => ?_
      · rw [List.length_map, List.length_zip, lz, lus]; exact Nat.min_self _
      · have hrel : (its.zip us)[i]? = some (key, v) := hrel
        rw [List.getElem?_zip_eq_some] at hrel
        obtain ⟨e1, e2⟩ := hrel
        have hi : i < xs.length := by
          rw [← n1]
          exact (List.getElem?_eq_some_iff.mp e1).1
        have hx : (xs.map V.str)[i]? = some (.str xs[i]) := by rw [List.getElem?_map, List.getElem?_eq_getElem hi]; rfl
        obtain ⟨u, hu, ru⟩ := rv.get hx
        rw [e1] at hu
        cases hu
        obtain ⟨t', rfl⟩ := ru
        refine ⟨Sum.inr xs[i], ?_, mixKind_str X.prog X.w xs[i] t'⟩
        rw [List.getElem?_map, (List.getElem?_zip_eq_some (l₁ := xs) (l₂ := us) (z := (xs[i], v)) (i := i)).mpr ⟨List.getElem?_eq_getElem hi, e2⟩]; rfl
      · rw [lz]; exact Nat.le_of_lt (small1000 hz)
      · have nd : (((xs.zip us).map fun p => ((Sum.inr p.1 : Key), p.2)).map (·.1)).Nodup := by
          have e : ((xs.zip us).map fun p => ((Sum.inr p.1 : Key), p.2)).map (·.1) = xs.map Sum.inr := by
            rw [List.map_map]
            have : ((xs.zip us).map Prod.fst) = xs := List.map_fst_zip (by rw [lus]; exact Nat.le_refl _)
            conv => rhs; rw [← this]
            rw [List.map_map]; rfl
          rw [e]
          exact List.pairwise_map.mpr (List.Pairwise.imp (fun h z => h (Sum.inr.inj z)) hn)
        rw [merged_nil_of_nodup _ nd] at hd
        have kp : ∀ b o, s1.heap.get? b = some o → h3.get? b = some o := fun b o e => by
          have hlt : b < s1.heap.objs.size := Heap.lt_size e
          obtain ⟨f1, f2, f3, f4, _⟩ := far hlt
          refine hk3 b o (fun hm => nomatch hm) (hk2 b o (fun hm => ?_) (hkp b o e))
          simp only [List.mem_cons, List.not_mem_nil, or_false] at hm
          rcases hm with z | z | z | z
          · exact f1 z
          · exact f2 z
          · exact f3 z
          · exact f4 z
        have hbig : sysModules < s1.heap.objs.size := I1.big
        have hle : s1.heap.objs.size ≤ h2.objs.size := by
          have a1 : h'.objs.size < h2.objs.size := Heap.lt_size hS2
          have a2 : s1.heap.objs.size ≤ h'.objs.size := by rw [hsz]; exact Nat.le_add_right _ _
          exact Nat.le_trans a2 (Nat.le_of_lt a1)
        have hf : H1 h2.objs.size = none := I1.hok.fresh hle
        refine ⟨.ref h2.objs.size, _, I1.laid (a := h2.objs.size) (t' := tk3) kp hle ?_, rfl, qq _ hf⟩
        refine ⟨?_, beq_eq_false_iff_ne.mpr (fun z => absurd hbig (Nat.not_lt.mpr (by rw [← z]; exact hle))), _, kv_zip rv rus ?_, hd⟩
        · rw [List.length_map, List.length_zip]; exact Nat.le_trans (Nat.min_le_left _ _) (Nat.le_of_lt (small1000 hz))
        · show xs.length = (y.cps.toList.map fun k => (⟨#[k]⟩ : Str)).length
          rw [List.length_map, Array.length_toList]
          exact hy.symm
theorem chS_len (y : Str) : (chS y).length = y.cps.size := by
  unfold chS
  rw [List.length_map, Array.length_toList]
def dDictLZ (ax : Da) : Dn := fun ρ s => (ax ρ s).bind fun p => match p.1 with
  | [.lst ds, .str y] => (strsOf ds).bind fun xs => if y.cps.size = xs.length ∧ xs.Nodup ∧ xs.length ≤ 1000 then some (.dS (xs.zip ((chS y).map D.str)), p.2) else none
  | _ => none
theorem repS_zip {K : Kx} {c : Option Addr} {I : Hp} : ∀ (xs ys : List Str), RepS K c I ((xs.zip ys).map fun p => ((Sum.inr p.1 : Key), V.str p.2)) (xs.zip (ys.map D.str))
  | [], _ => .nil
  | _ :: _, [] => .nil
  | x :: xs, y :: ys => .cons (.str y) (repS_zip xs ys)
theorem sn_dictLZ {K : Kx} {ta : TA} {ax : Da} (h1 : SndA K ta ax) : SndE K (tDictLZ K ta) (dDictLZ ax) := fun c I H σ ρ s d s' e h Q q => by
  obtain ⟨⟨x, s1⟩, h2, h⟩ := bind_some_of h
  refine h1 _ _ _ _ _ _ _ _ e h2 _ fun v I1 H1 g1 w1 r1 => ?_
  split at h
  · rename_i ds y hd
    have hd : x = [.lst ds, .str y] := hd
    subst hd
    obtain ⟨xs, h3, h⟩ := bind_some_of h
    split at h
    · rename_i hh
      obtain ⟨hl, hn, hz⟩ := hh
      cases h
      cases r1 with
      | cons ra r => cases r with
        | cons rb r =>
          cases r
          cases rb
          cases ra with
          | lst hI rl =>
            rw [strsOf_rep rl h3] at hI
            refine ⟨_, xs, y, rfl, .of (g1.s2.lst hI), hl, hn, hz, fun T hT => ?_⟩
            have g := Gr.new (o := .dK ((xs.zip (chS y)).map fun p => ((Sum.inr p.1 : Key), V.str p.2))) g1.s2 hT
            exact q _ _ _ (g1.tr w1 g.up) (w1.gr g) (.dS upd_same (repS_zip xs (chS y)))
    · cases h
  · cases h
theorem ee_dictLZ {X : Cx} {e e2 : Expr} {ta : TA} {ax : Da} {j : Nat} {p p1 p2 q q1 pos : Pos} (hr : Room j X.A) (hc : X.calm = true) (hg : Gl X "dict") (hm : X.mg "dict" = none) (hg1 : Gl X "list") (hm1 : X.mg "list" = none) (hg2 : Gl X "zip") (hm2 : X.mg "zip" = none) (ha : EA X [e, e2] ta ax)
    (na0 : starEach [.Call (.Name "list" p1) [.Call (.Name "zip" p2) [e, e2] [] q] [] q1] X.env = (false, eval (.Call (.Name "list" p1) [.Call (.Name "zip" p2) [e, e2] [] q] [] q1) X.env) :: starEach [] X.env := by rfl)
    (na : starEach [.Call (.Name "zip" p2) [e, e2] [] q] X.env = (false, eval (.Call (.Name "zip" p2) [e, e2] [] q) X.env) :: starEach [] X.env := by rfl)
    (hs : starEach [e, e2] X.env = (false, eval e X.env) :: starEach [e2] X.env := by rfl) (hpl : (backTo q (starEach [e2] X.env)).any (fun z => z.1) = false := by rfl) :
    EE X (.Call (.Name "dict" p) [.Call (.Name "list" p1) [.Call (.Name "zip" p2) [e, e2] [] q] [] q1] [] pos) (tDictLZ X.kx ta) (dDictLZ ax) := ⟨pe_dictLZ hr hc hg hm hg1 hm1 hg2 hm2 ha.p na0 na hs hpl, sn_dictLZ ha.s⟩
end Dl
end
section
set_option Elab.async false
set_option linter.all false
set_option maxRecDepth 100000
set_option maxHeartbeats 4000000
namespace Dl
open PySem PySem.Spec PyProof.Rows L2 StX RZ
/-! xs.append(e) on an owned list -/
section
variable {K : Kx} {c : Option Addr} {I0 H0 I H : Hp} {σ : L2.St} {ρ : List Sl} {s : Tau}
/-- what a slot owns is written -/
theorem EnvS.wr {i : Nat} {p : Addr} {d d' : D} {ob : HO} (e2 : EnvS K c I0 H0 I H σ ρ s) (hp : σ[i]? = some (some (V.ref p))) (hs : ρ[i]? = some (.ow d)) (new : OwOk K c I (upd H p ob) p d') : EnvS K c I0 H0 I (upd H p ob) σ (ρ.set i (.ow d')) s := by
  obtain ⟨p2, hp2, o2⟩ := e2.env.ow hs
  rw [hp] at hp2
  cases hp2
  obtain ⟨h3, h4⟩ := o2.fr
  have h0 := e2.fr i p _ hp hs
  have eq : σ.set i (some (V.ref p)) = σ := by
    apply List.ext_getElem?
    intro j
    by_cases z : i = j
    · subst z
      rw [List.getElem?_set]
      have hl := (List.getElem?_eq_some_iff.mp hp).1
      simp only [if_true, hl, hp]
    · rw [List.getElem?_set_ne z]
  have sl2 : ∀ {σ' : L2.St} {ρ' : List Sl}, (∀ (j : Nat) (d : D), σ'[j]? = some (some (V.ref p)) → ρ'[j]? = some (.ow d) → False) → SlL K c I H σ' ρ' → SlL K c I (upd H p ob) σ' ρ' := fun {σ' ρ'} n sl => by
    induction sl with
    | nil => exact .nil
    | @cons v x σ2 ρ2 a r ih =>
      refine .cons ?_ (ih fun j d z1 z2 => n (j + 1) d (by simpa using z1) (by simpa using z2))
      cases a with
      | un => exact .un _
      | im a => exact .im a
      | @ow p2 d2 o2 =>
        have np : p2 ≠ p := fun z => n 0 d2 (by rw [z]; rfl) rfl
        refine .ow ?_
        cases o2 with
        | lst h1 h2 h3 h4 => exact .lst (by rw [upd_ne np]; exact h1) h2 h3 h4
        | dS h1 h2 h3 h4 => exact .dS (by rw [upd_ne np]; exact h1) h2 h3 h4
  have slot := SlL.set (v := some (V.ref p)) (x := .un) (.un _) i e2.env.sl
  rw [eq] at slot
  have s2' := sl2 (σ' := σ) (ρ' := ρ.set i .un) (fun j d' z1 z2 => by
    by_cases z : i = j
    · subst z
      rw [List.getElem?_set] at z2
      simp only [if_true] at z2
      split at z2 <;> cases z2
    · rw [List.getElem?_set_ne z] at z2
      exact e2.env.uq i j p _ d' z hp z1 hs z2) slot
  have s3 := SlL.set (v := some (V.ref p)) (x := .ow d') (.ow new) i s2'
  rw [eq, List.set_set] at s3
  refine ⟨⟨fun a u z => ?_, fun rr hr => ?_, s3, ?_⟩, e2.s0, fun a u n z => ?_, e2.nw, fun j q' d'' h1' h2' => ?_, e2.nc⟩
  · rw [upd_ne (ne_of_none z h3)]; exact e2.env.sub a u z
  · obtain ⟨z1, sc, z2, z3⟩ := e2.env.w rr hr
    have n : rr ≠ p := fun z => h4 (by rw [hr, z])
    exact ⟨z1, sc, by rw [upd_ne n]; exact z2, z3⟩
  · have u := Uq.setO (i := i) (p := p) (d := d') e2.env (fun j d' nj z1 z2 => e2.env.uq i j p _ d' (Ne.symm nj) hp z1 hs z2)
    rw [eq] at u
    exact u
  · have n2 : a ≠ p := fun z2 => by rw [z2, h0] at z; cases z
    rw [upd_ne n2]; exact e2.kp a u n z
  · by_cases z : i = j
    · subst z
      rw [hp] at h1'; cases h1'
      exact h0
    · rw [List.getElem?_set_ne z] at h2'
      exact e2.fr j q' d'' h1' h2'
end
def dApp (i : Nat) (dv : Dn) : Ds := fun ρ s => match ρ[i]? with
  | some (.ow (.lst ds)) => (dv ρ s).bind fun v => if ds.length < 1000000 then some (.nx (ρ.set i (.ow (.lst (ds ++ [v.1])))), v.2) else none
  | _ => none
theorem ss_app {K : Kx} {tv : TE} {dv : Dn} (i : Nat) (hv : SndE K tv dv) : SndS K (tDrop (tBM K "list" rAppend (tVar i) (tCons tv tNil))) (dApp i dv) := fun c I0 H0 I H σ ρ s o s' e h En q => by
  unfold dApp at h
  split at h
  · rename_i ds hs
    obtain ⟨⟨y, s1⟩, ha, h⟩ := bind_some_of h
    split at h
    · rename_i hl
      cases h
      obtain ⟨p, hp, o0⟩ := e.env.ow hs
      have ty : tyV K.f "list" (.ref p) H := by
        cases o0 with
        | lst h1 _ _ _ => exact .inl ⟨rfl, _, .of h1⟩
      refine ⟨.ref p, hp, ty, ?_⟩
      refine hv _ _ _ _ _ _ _ _ e.env ha _ fun v I1 H1 g1 w1 r1 => ?_
      have e1 := e.grow g1 w1
      obtain ⟨p2, hp2, o2⟩ := e1.env.ow hs
      rw [hp] at hp2
      cases hp2
      cases o2 with
      | @lst vs _ h1 h2 h3 h4 =>
        exact ⟨p, vs, v, rfl, rfl, h1, by rw [h2.length]; exact Nat.lt_of_lt_of_le hl (by decide), q _ I1 _ (e1.wr hp hs (.lst upd_same (h2.app (.one r1)) h3 h4))⟩
    · cases h
  · cases h
theorem es_app {X : Cx} {x : Str} {px apos cpos pos : Pos} {v : Expr} {tv : TE} {dv : Dn} (i : Nat) (hx : EE X (.Name x px) (tVar i) (dVar i)) (hv : EE X v tv dv)
    (hbase : attributeBase (.Name x px) "append" X.env (eval (.Name x px) X.env) = eval (.Name x px) X.env := by rfl)
    (hfew : ((backTo cpos (starEach [v] X.env)).all (fun x => !x.1) && (backToKw cpos (keywordEach [] X.env)).all (fun x => x.1.isSome) && decide (([v] : List Expr).length + ([] : List Keyword).length + (if ([] : List Keyword).isEmpty then 0 else 1) < 30)) = true := by rfl)
    (hline : (apos.endLine == cpos.line) = true := by rfl) (hs1 : starEach [v] X.env = (false, eval v X.env) :: starEach [] X.env := by rfl) (hplain : (backTo cpos (starEach [] X.env)).any (fun z => z.1) = false := by rfl)
    (hs : swapsWith (.Call (.Attribute (.Name x px) "append" apos) [v] [] cpos) none pos.line X.env = pure false := by rfl) :
    ES X (.Expr (.Call (.Attribute (.Name x px) "append" apos) [v] [] cpos) pos) (tDrop (tBM X.kx "list" rAppend (tVar i) (tCons tv tNil))) (dApp i dv) :=
  ⟨ps_expr (pe_bm PySem.F.plainAttrs_list PySem.F.slot_list_append PySem.F.type_list_append mt_append hx.p (pa_cons hv.p pa_nil hs1) hbase hfew hline hs1 hplain) hs, ss_app i hv.s⟩
theorem ef_lst {X : Cx} {es : List Expr} {tx : TA} {ax : Da} {pos : Pos} (h : EA X es tx ax) : EF X (.List es pos) (tLst tx) (dLst ax) := ⟨(ee_lst h).p, sf_lst h.s⟩
/-! list(x) of a tuple or a list -/
def rListOf (K : PySem.W.Frag) : List V → Hp → VK → Prop := fun xs H Q => ∃ p ys, xs = [.ref p] ∧ (SqL K H p ys ∨ SqT K H p ys) ∧ ∀ l, H l = none → Q (.ref l) (upd H l (.lst ys))
theorem cr_listOf {X : Cx} : CallR X (.type "list") (rListOf X.K) := call_list_of
def listD : List D → Option D
  | [d] => (seqOf d).map D.lst
  | _ => none
theorem sl_list {K : Kx} : SndL K (rListOf K) listD := fun c I H xs ds z s rx h Q q => by
  unfold listD at h
  split at h
  · obtain ⟨zs, h1, rfl⟩ := map_some_of h
    cases rx with
    | cons a r =>
      cases r
      obtain ⟨ys, ⟨l, rfl, hl⟩, rl⟩ := seqOf_rep a s h1
      refine ⟨l, ys, rfl, hl, fun p hp => ?_⟩
      have g := Gr.new (o := .lst ys) s hp
      exact q _ _ _ g (.lst upd_same (rl.mono g.s1))
  · cases h
end Dl
end
section
set_option Elab.async false
set_option linter.all false
set_option maxRecDepth 100000
set_option maxHeartbeats 4000000
namespace Dl
open PySem PySem.Spec PyProof.Rows L2 StX RZ HotX
/-! where an exception is handled: the end of a list's walk, comprehensions over a list -/
theorem list_end_hot {prog : Program} {w : World} {A : Around} {E : Value → Shared → Prop} {s : Shared} {it l x1 : Addr} {i : Nat} {items : Array Value} {Q : Option Value → Shared → Prop} (hot : HotAt A x1 s.heap) (hne : x1 ≠ it)
    (hit : s.heap.IsListIter it l i) (hl : s.heap.IsList l items) (hx : items[i]? = none)
    (hQ : ∀ h', (∀ b o, b ≠ it → s.heap.get? b = some o → h'.get? b = some o) → Q none { s with heap := h' }) : wpAny (model prog w) A (pyNext (.ref it)) Q E s := by
  obtain ⟨o, ho, hc, hd⟩ := id hit
  obtain ⟨ol, hol, _, nl, hdl⟩ := hl
  obtain ⟨hh, o1, vs1, h1, d1, c1⟩ := hot
  unfold pyNext
  refine wpAny_bind (wpAny_attempt (wpAny_callSpecial?_slot (name := Str.ofString "__next__") hit.typeIs slot_listiter_next
    (wpAny_call_entry slot_listiter_next hit.typeIs entry_listiter_next ?_ (args_listiter_next _))))
  show wpAny _ _ (field (.ref it) 0 >>= _) _ _ s
  refine wpAny_bind (wpAny_field ho hd (x := .ref l) rfl ?_)
  show wpAny _ _ (if (Value.ref l == Value.none) = true then _ else _) _ _ s
  rw [if_neg (show ¬ ((Value.ref l == Value.none) = true) from Bool.false_ne_true)]
  show wpAny _ _ (field (.ref it) 1 >>= _) _ _ s
  refine wpAny_bind (wpAny_field ho hd (x := .int i 0) rfl ?_)
  show wpAny _ _ (seqItems? (.ref l) >>= _) _ _ s
  refine wpAny_bind (wpAny_seqItems hol hdl ?_)
  simp only [Int.toNat_natCast, hx]
  refine wpAny_bind (wpAny_rule (wpAny_bind (wpAny_setField ho hd (by simp) ?_)))
  show wpAny _ _ (newExc (.type "StopIteration") [] >>= _) _ _ _
  refine wpAny_bind ?_
  simp only [newExc, newTuple]
  refine wpAny_bind (wpAny_newObj_type ?_ (by size_fits))
  refine wpAny_bind (m := firstArgMember _ _) (wpAny_of_eq (a := Value.none) (by first | rfl | (simp only [firstArgMember]; rfl)) ?_)
  refine wpAny_newObj_type ?_ (by size_fits)
  have k1 : ∀ b ob, b ≠ it → s.heap.get? b = some ob → (s.heap.update it (Obj.mapFields (·.setIfInBounds 0 .none))).get? b = some ob := fun b ob hb e => (Heap.get?_update_other _ _ (Ne.symm hb)).trans e
  have h1' := k1 x1 o1 hne h1
  refine raiseNew_hot ⟨hh, o1, vs1, Heap.get?_push_of_some _ (Heap.get?_push_of_some _ h1'), d1, c1⟩ (Nat.ne_of_lt (Heap.lt_size (Heap.get?_push_of_some _ h1'))) (Heap.get?_push_size _ rfl) rfl (by first | (simp; done) | (simp; omega) | (simp only [Array.size_append]; simp; omega)) ?_
  refine wpAny_bind (wpAny_isInstance (T := "StopIteration") (b := true) ⟨_, Heap.get?_update_self _ (Heap.get?_push_size _ rfl) rfl, rfl⟩ isSubtype_stop ?_)
  refine wpAny_pure (hQ _ fun b o hb e => ?_)
  have e' := k1 b o hb e
  rw [Heap.get?_update_other _ _ (Nat.ne_of_gt (Heap.lt_size (Heap.get?_push_of_some _ e')))]
  exact Heap.get?_push_of_some _ (Heap.get?_push_of_some _ e')

section
variable {X : Cx}
/-- [elt for target in xs if ..] where an exception is handled -/
theorem pe_lcH {elt tg iter : Expr} {ifs : List Expr} {scope : Scope} {own : List (Str × Nat)} {pos : Pos} {tl : TE} {g : TG} {tt : TT} {te : TE} {q : Addr × Obj} (hq : q ∈ X.pn) (hot : L2H.Hot1 X.A q) (hN : X.N.Nodup) (hl : PE X iter tl) (ok : BlkOk X.N X.env.scope scope own)
    (hg : ∀ (s : Shared) (H : Hp) (C : Addr) (cl : List (Str × Addr)) (fp : List Addr), PG (X.blk s H scope (compEnvC scope cl C X.env) fp) tg g) (ht : ∀ (s : Shared) (H : Hp) (C : Addr) (cl : List (Str × Addr)) (fp : List Addr), PTs (X.blk s H scope (compEnvC scope cl C X.env) fp) ifs tt)
    (he : ∀ (s : Shared) (H : Hp) (C : Addr) (cl : List (Str × Addr)) (fp : List Addr), PE (X.blk s H scope (compEnvC scope cl C X.env) fp) elt te) (hs : ∀ x, foldedSetIterable iter X.env x = pure x := by intro _; rfl) :
    PE X (.ListComp elt [⟨tg, iter, ifs, 0⟩] scope pos) (tLc (iList X.K tl) g tt te (own.map fun z => z.2)) := by
  refine ⟨fun pins s σ H Q I h => ?_⟩
  rw [eval_ListComp]
  have hfree : ∀ y ∈ scope.names, y.2 = .free → ∃ c, X.env.cells.lookup y.1 = some c := fun y hy e => by
    rcases ok.free y hy e with k | k
    · exact I.ok.has _ (.inl k)
    · exact I.ok.has _ (.inr k)
  refine wpAny_comprehension_free (use := none) rfl hs (closure_ok hfree) ok.kind (fun y hy e => by rw [ok.uniq y hy, e])
    (thn (hl.run pins s σ H _ I h) fun xv s1 hx => ?_)
  obtain ⟨x, H1, I1, r1, a, ex, ⟨xs, hxs⟩, qq⟩ := hx
  subst ex
  cases r1
  obtain ⟨its, rv, pl, hz⟩ := I1.list hxs
  refine wpAny_pyIter_list pl.isList ?_
  generalize hit : s1.heap.objs.size = it
  generalize hs2 : ({ s1 with heap := s1.heap.push { cls := .type "list_iterator", data := .fields #[.ref a, .int 0 0] } } : Shared) = s2
  have I2 : Inv X pins σ H1 s2 := by rw [← hs2]; exact I1.kept (t' := s1.toks) fun b o e => Heap.get?_push_of_some _ e
  have st2 : s2.heap.IsListIter it a 0 := by rw [← hs2, ← hit]; exact ⟨_, Heap.get?_push_size _ rfl, rfl, rfl⟩
  have f2 : FpOk X pins H1 it := I1.fpOk (Nat.le_of_eq hit) (I1.hok.fresh (Nat.le_of_eq hit))
  refine wpAny_newObj_type (newEnv_comp ?_) (by show 0 ≤ sizeLine; decide)
  generalize hD : s2.heap.objs.size = D
  have hDn : H1 D = none := I2.hok.fresh (Nat.le_of_eq hD)
  obtain ⟨W, ⟨m0, w0⟩, turn⟩ := qq D hDn
  generalize hs3 : ({ s2 with heap := s2.heap.push { cls := .type "list", data := .seq ([] : List Value).toArray } } : Shared) = s3
  have I3 : Inv X pins σ (upd H1 D (.lst [])) s3 := by
    rw [← hs3]
    refine I2.laid (t' := s2.toks) (fun b o e => Heap.get?_push_of_some _ e) (Nat.le_of_eq hD) ⟨Nat.zero_le _, [], 0, .nil, ?_⟩
    rw [← hD]
    exact Heap.get?_push_size _ rfl
  have h3 : s3.heap = s2.heap.push { cls := .type "list", data := .seq ([] : List Value).toArray } := by rw [← hs3]
  have itlt : it < s2.heap.objs.size := let ⟨_, e, _⟩ := st2; Heap.lt_size e
  have f3 : ∀ b ∈ [it], FpOk X pins (upd H1 D (.lst [])) b ∧ b < s3.heap.objs.size := fun b hb => by
    obtain rfl : b = it := by simpa using hb
    refine ⟨⟨?_, f2.2⟩, by rw [h3, Heap.size_push]; exact Nat.lt_succ_of_lt itlt⟩
    rw [upd_ne (by rw [← hD]; exact Nat.ne_of_lt itlt)]
    exact f2.1
  have st3 : s3.heap.IsListIter it a 0 := st2.at fun o e => by rw [h3]; exact Heap.get?_push_of_some _ e
  have I4 := block_start I3 ok hN f3
  have pg := hg s3 (upd H1 D (.lst [])) s3.heap.objs.size (cellsFrom (s3.heap.objs.size + 1) scope.names (cloFrom X.env.cells scope.names [])) [it]
  have pt := ht s3 (upd H1 D (.lst [])) s3.heap.objs.size (cellsFrom (s3.heap.objs.size + 1) scope.names (cloFrom X.env.cells scope.names [])) [it]
  have pe := he s3 (upd H1 D (.lst [])) s3.heap.objs.size (cellsFrom (s3.heap.objs.size + 1) scope.names (cloFrom X.env.cells scope.names [])) [it]
  show codeAny _ _ (.compStart (.ListComp elt [⟨tg, iter, ifs, 0⟩] scope pos) 0 (.ref it) (.ref D) (compEnvC scope (cellsFrom (s3.heap.objs.size + 1) scope.names (cloFrom X.env.cells scope.names [])) s3.heap.objs.size X.env)) (compPost (model X.prog X.w) X.A X.xe none _ (.ref D) s3.heap.objs.size) { s3 with heap := pushCells (s3.heap.push { cls := .type "dict", data := .dict #[] }) scope.names }
  have nit : (upd H1 D (.lst [])) it = none := (f3 it (by simp)).1.1
  -- the exception, pinned
  obtain ⟨qg, qn, qL, qF, qd⟩ := I3.pin q (List.mem_append_left _ hq)
  have qit : q.1 ≠ it := f2.2.2.2.2.2 q (List.mem_append_left _ hq)
  generalize hce : compEnvC scope (cellsFrom (s3.heap.objs.size + 1) scope.names (cloFrom X.env.cells scope.names [])) s3.heap.objs.size X.env = ce at I4 pg pt pe ⊢
  have cL : ce.locals = s3.heap.objs.size := by subst hce; rfl
  generalize hH3 : upd H1 D (.lst []) = H3 at I3 I4 pg pt pe w0 nit f3 qn
  have I4q : Inv (X.blk s3 H3 scope ce [it]) [q] (wipe σ (own.map fun z => z.2)) H3 { s3 with heap := pushCells (s3.heap.push { cls := .type "dict", data := .dict #[] }) scope.names } := I4.pins_of fun p hp => by
    obtain rfl : p = q := by simpa using hp
    refine ⟨pushCells_keeps _ _ _ _ (Heap.get?_push_of_some _ qg), qn, ?_, fun hm => ?_, qd⟩
    · show p.1 ≠ ce.locals
      rw [cL]
      exact Nat.ne_of_lt (Heap.lt_size qg)
    · rcases List.mem_cons.mp (I3.stkSub p.1 hm) with z | z
      · exact qL z
      · exact qF z
  generalize hs4 : ({ s3 with heap := pushCells (s3.heap.push { cls := .type "dict", data := .dict #[] }) scope.names } : Shared) = s4 at I4q ⊢
  have st4 : s4.heap.IsListIter it a 0 := st3.at fun o e => by rw [← hs4]; exact pushCells_keeps _ _ _ _ (Heap.get?_push_of_some _ e)
  have stat : ∀ {σ' : L2.St} {H' : Hp} {s' : Shared}, Inv (X.blk s3 H3 scope ce [it]) [q] σ' H' s' → H' it = none → ∀ b ∈ [it], FpOk (X.blk s3 H3 scope ce [it]) [q] H' b := fun {σ' H' s'} I' hn b hb => by
    refine ⟨by obtain rfl : b = it := by simpa using hb
               exact hn, (I'.ok.exf b hb).1, I'.ok.exfs b hb, .inl hb, fun x c e => (I'.ok.exf b hb).2 x c e, fun p hp => ?_⟩
    obtain rfl : b = it := by simpa using hb
    obtain rfl : p = q := by simpa using (show p ∈ ([] : List (Addr × Obj)) ++ [q] from hp)
    exact qit
  have ob : ∀ {h : Heap} {i : Nat}, h.IsListIter it a i → ∀ b ∈ [it], ∃ o, h.get? b = some o ∧ ∀ v, o.data ≠ .cell v := fun {h i} st b hb => by
    obtain rfl : b = it := by simpa using hb
    obtain ⟨o, e, c, d⟩ := st
    exact ⟨o, e, fun v z => by rw [d] at z; cases z⟩
  have loop : codeAny (model X.prog X.w) X.A (.compLoop (.ListComp elt [⟨tg, iter, ifs, 0⟩] scope pos) 0 (.ref it) (.ref D) ce) (compPost (model X.prog X.w) X.A X.xe none (EP X pins σ Q) (.ref D) s3.heap.objs.size) s4 := by
    refine compLoop_any (fun n s' => ∃ i H', Inv (X.blk s3 H3 scope ce [it]) [q] (wipe σ (own.map fun z => z.2)) H' s' ∧ s'.heap.IsListIter it a i ∧ H' it = none ∧ W i n H') ?_ m0 ⟨0, H3, I4q, st4, nit, w0⟩
    rintro n s5 ⟨i, H5, I5, st5, n5, w5⟩
    obtain ⟨f0, f1, f2', f3', f4, f5⟩ := stat I5 n5 it (by simp)
    rcases turn i n H5 w5 with ⟨stop, qz⟩ | ⟨go, Nx, hNx, step⟩
    · obtain ⟨ys, hys, hlen⟩ := stop
      obtain ⟨its5, rv5, p5, _⟩ := I5.list hys
      have hl5 := rv5.length
      have hotA : HotAt X.A q.1 s5.heap := by
        obtain ⟨hh, vs, d1, c1⟩ := hot
        exact ⟨hh, q.2, vs, (I5.pin q (by simp)).1, d1, c1⟩
      have td : wpAny (model X.prog X.w) X.A (pyNext (.ref it)) (fun r s6 => r = none ∧ Inv (X.blk s3 H3 scope ce [it]) [q] (wipe σ (own.map fun z => z.2)) H5 s6) (fun _ _ => False) s5 :=
        list_end_hot hotA qit st5 p5.isList (by simp; omega) fun h' eb => ⟨rfl, I5.turned (t' := s5.toks) (fun b o hb e => eb b o hb e) f0 f1 f3' f4 f5⟩
      refine thnF td fun r s6 ⟨hr, I6⟩ => ?_
      subst hr
      have I7 : Inv X pins σ H5 s6 := I3.call' (ch := [it]) I6.os I6.base I6.hok I6.bare fun b hb => ⟨(f3 b hb).1.2.2.2.1, (f3 b hb).1.2.1, (f3 b hb).1.2.2.2.2.1, (f3 b hb).1.2.2.2.2.2⟩
      have nC : H5 s3.heap.objs.size = none := by
        have z : H5 ce.locals = none := I6.free
        rw [cL] at z
        exact z
      obtain ⟨m, hn, _⟩ := I6.loc
      have hn : s6.heap.Ns ce.locals m := hn
      rw [cL] at hn
      refine ⟨m, hn, fun h'' sb => ?_⟩
      obtain ⟨g0, g1, g2, g3, g4, g5⟩ := I3.fpOk (H' := H5) (Nat.le_refl _) nC
      exact ⟨.ref D, H5, I7.turned (t' := s6.toks) (fun b o hb e => (sb.2 b hb).trans e) g0 g1 g3 g4 g5, rfl, qz⟩
    · obtain ⟨ys, y0, hys, hy0⟩ := go
      obtain ⟨its5, rv5, p5, _⟩ := I5.list hys
      obtain ⟨u0, hu0, ru0⟩ := rv5.get hy0
      have ti : wpAny (model X.prog X.w) X.A (pyNext (.ref it)) (fun r s1 => ∃ u, r = some u ∧ wpAny (model X.prog X.w) X.A (letOwnedTupleGo tg (.ref it) u) (fun _ s2 => ∃ x H', Inv (X.blk s3 H3 scope ce [it]) [q] (wipe σ (own.map fun z => z.2)) H' s2 ∧ RelV x u ∧ (Itl X.K a).yld i H5 x H' ∧ s2.heap.IsListIter it a (i + 1) ∧ H' it = none) (fun _ _ => False) s1) (fun _ _ => False) s5 := by
        refine wpAny_pyNext_list_item st5 p5.isList (x := u0) (by simpa using hu0) fun h' st' sb => ?_
        have I1 : Inv (X.blk s3 H3 scope ce [it]) [q] (wipe σ (own.map fun z => z.2)) H5 { s5 with heap := h' } := I5.turned (t' := s5.toks) (fun b o hb e => (sb.2 b hb).trans e) f0 f1 f3' f4 f5
        obtain ⟨o, e, c, d⟩ := id st'
        exact ⟨u0, rfl, go_of (s := { s5 with heap := h' }) e c d (by decide) ⟨y0, H5, I1, ru0, ⟨rfl, fun zs hzs => by rw [I5.list_inj hzs hys]; exact hy0⟩, st', n5⟩⟩
      refine thnF ti fun r s6 ⟨u, hr, h6⟩ => ?_
      subst hr
      refine thnF h6 fun _ s7 ⟨x, H7, I7, r7, y7, st7, n7⟩ => ?_
      have I7' := I7.pinned (stat I7 n7) (ob st7)
      refine thnF (pg.run _ s7 _ H7 x u _ I7' r7 (step x H7 y7)) fun _ s8 ⟨σ8, H8, I8, hw8, q8⟩ => ?_
      refine thnF (pt.run _ s8 σ8 H8 _ I8 q8) fun b s9 ⟨H9, I9, q9⟩ => ?_
      have fin : ∀ {s' : Shared} {H' : Hp}, Inv (X.blk s3 H3 scope ce [it]) ([q] ++ pinsAt [it] s7.heap) σ8 H' s' → Nx H' → ∃ m, m < n ∧ ∃ i H', Inv (X.blk s3 H3 scope ce [it]) [q] (wipe σ (own.map fun z => z.2)) H' s' ∧ s'.heap.IsListIter it a i ∧ H' it = none ∧ W i m H' := fun {s' H'} I' nx => by
        obtain ⟨m', hm, w'⟩ := hNx H' nx
        have pin' : ∀ o, s7.heap.get? it = some o → s'.heap.get? it = some o ∧ H' it = none := fun o e =>
          let z := I'.pin (it, o) (List.mem_append_right _ (List.mem_append_right _ (mem_pinsAt (by simp) e)))
          ⟨z.1, z.2.1⟩
        have hl : (wipe σ (own.map fun z => z.2)).length = σ8.length := by rw [← hw8, wipe_length]
        refine ⟨m', hm, i + 1, H', (I'.unpinned (pins := [q])).weak hl (fun j v e => ?_), st7.at fun o e => (pin' o e).1, ?_, w'⟩
        · rw [← hw8] at e
          exact (wipe_some e).1
        · obtain ⟨o, e, _⟩ := st7
          exact (pin' o e).2
      cases b with
      | false =>
        simp only [Bool.false_eq_true, if_false] at q9 ⊢
        exact fin I9 q9
      | true =>
        simp only [if_true] at q9 ⊢
        refine thnF (pe.run _ s9 σ8 H9 _ I9 q9) fun z s10 ⟨yv, H10, I10, r10, acc, hD10, hz10, nx⟩ => ?_
        exact app_ok (X := X.blk s3 H3 scope ce [it]) I10 hD10 hz10 r10 fun s11 I11 => fin I11 nx
  exact codeAny_compStart_list loop (wpAny_pyIter_listiter st4 loop)
theorem ee_lcH {elt tg iter : Expr} {ifs : List Expr} {scope : Scope} {own : List (Str × Nat)} {pos : Pos} {tl : TE} {dl : Dn} {g : TG} {dg : Dg} {js : List Nat} {tt : TT} {bt : Dt} {te : TE} {de : Dn} {q : Addr × Obj} (hq : q ∈ X.pn) (hot : L2H.Hot1 X.A q) (hN : X.N.Nodup) (hl : EE X iter tl dl)
    (ok : blkC X.N X.env.scope scope own = true) (hg : EGb X scope tg g dg js) (ht : ETb X scope ifs tt bt) (he : EEb X scope elt te de) (hj : ∀ k ∈ js, k ∈ own.map (fun z => z.2) := by decide) (hs : ∀ x, foldedSetIterable iter X.env x = pure x := by intro _; rfl) :
    EE X (.ListComp elt [⟨tg, iter, ifs, 0⟩] scope pos) (tLc (iList X.kx tl) g tt te (own.map (fun z => z.2))) (dLc (dItL dl) dg bt de (own.map (fun z => z.2))) :=
  ⟨pe_lcH hq hot hN hl.p (blkOk_by ok) hg.p ht.p he.p hs, sn_lc (si_list hl.s) hg.s hj ht.s he.s⟩
end
end Dl
end
section
set_option Elab.async false
set_option linter.all false
set_option maxRecDepth 100000
set_option maxHeartbeats 4000000
namespace Dl
open PySem PySem.Spec PyProof.Rows L2 StX RZ HotX
/-! defs that raise; a try that catches what a call raises -/
section
variable {X : Cx}
/-- C(), C an own exception class without own __init__ -/
theorem pmk_own0 {C : Addr} {bmB : List Value} {B newId initId : String} {x : Str} {p pos : Pos} (F : ExcBaseFacts B newId initId bmB) (q : PySem.W.excIn X.K C bmB newId = true) (gC : X.mg x = some (.ref C)) (kC : PySem.W.keepIn X.K (.ref C) = true) (r : Raises X (.ref C)) (hg : Gl X x)
    (hdb : (x == ("__debug__" : Str)) = false := by decide) : L2N.PMk X (.Call (.Name x p) [] [] pos) (fun _ H Q => Q (.ref C) none H) := by
  intro pins s σ H Q I h
  refine wpAny_Call_Name_kw (ld_glob I hg gC ?_ hdb)
  refine PySem.W.callWith_K0 I.kIn kC ?_
  show wpAny _ _ (call (.ref C) []) _ _ _
  obtain ⟨bm, N, nm, qn, bs, hdct, sn, sub, ab, col, dd, k0, k1, k2, k3, k5, mN, hC, hN, hni, T⟩ := exc_obj I.kIn q
  refine wpAny_call_exc_subT F T hC hN hni (fun h' e hm => ?_) (by show 0 ≤ sizeLine; exact Nat.zero_le _)
  exact L2N.mk_of I hm r h (I.hok.gone hm.new)
theorem takes0N : L2N.Takes X (fun _ _ _ _ => False) := fun _ _ x => by
  obtain ⟨_, _, _, _, _, _, _, _, _, _, _, _, _, _, _, _, z⟩ := x
  exact z.elim
theorem cm_eqU (hu : X.A.units + 64 < cLine) : CM X .Eq (rEqD X.kx) eqD := ⟨op_eqD hu, s2_eq⟩
end
abbrev Fx := List D → Tau → Option Tau
def spX (K : Kx) (n : Nat) (C : Addr) (fx : Fx) : Sp := fun vs H _ E => vs.length = n ∧ ∃ c I ds s s', RepL K c I vs ds ∧ Sub I H ∧ DW K c s I H ∧ fx ds s = some s' ∧ ∀ I' H', Gr c I H I' H' → DW K c s' I' H' → E (.ref C) none H'
/-- a def that raises: all that is asked of it -/
structure CdX (P : Program) (w : World) (K : PySem.W.Frag) (mg : Str → Option Value) (base : Heap) (k : Nat) (x : Str) (n : Nat) (C : Addr) (fx : Fx) : Prop where
  h : ∃ (f : Addr) (fd : FuncData) (ps : List Str), ps.length = n ∧ FnOk P w K mg base (L2N.CX P w) k f fd ps (spX ⟨K, P, w⟩ n C fx) ∧ mg x = some (.ref f) ∧ PySem.W.keepIn K (.ref f) = true ∧ Binds K fd ps []
def fxIf (m : Nat) (bt : Dt) : Fx := fun ds s => (bt (ds.map Sl.im ++ List.replicate (m - ds.length) .un) s).bind fun p => if p.1 = true then some p.2 else none
section
variable {P : Program} {w : World} {K : PySem.W.Frag} {mg : Str → Option Value} {base : Heap} {x qual : Str} {params : Arguments} {body : List Stmt} {scope : Scope} {f : Addr} {fd : FuncData}
/-- a def that begins: if t: raise C() -/
theorem fnX_ok {N ps : List Str} {k : Nat} {C : Addr} {bmB : List Value} {B newId initId : String} {cx : Str} {cnd : Expr} {p1 p2 rp ip : Pos} {rest : List Stmt} {bt : Dt} (F : FunD K x qual params body scope [] [] f fd) (S : FnScope N ps scope)
    (hbody : body = .If cnd [.Raise (some (.Call (.Name cx p1) [] [] p2)) none rp] [] ip :: rest) (FB : ExcBaseFacts B newId initId bmB) (q : PySem.W.excIn K C bmB newId = true) (gC : mg cx = some (.ref C)) (kC : PySem.W.keepIn K (.ref C) = true)
    (r1 : PySem.W.subIn K (.ref C) (.type "BaseException") = some true) (r2 : PySem.W.typeIn K (.ref C) = some (.type "type")) (hdb : (cx == ("__debug__" : Str)) = false)
    (hb : ∀ (cdv : Value) (A : Around) (outer : List PySem.Env) (s : Shared) (H : Hp) (E : XK), Room k (A.deeper (envOfC qual scope s.heap.objs.size f cdv)) → ∃ tc, ET (cxOf (L2N.CX P w) P w K mg base N qual scope f cdv A outer s H E) cnd tc bt ∧ Gl (cxOf (L2N.CX P w) P w K mg base N qual scope f cdv A outer s H E) cx) :
    FnOk P w K mg base (L2N.CX P w) (k + 1) f fd ps (spX ⟨K, P, w⟩ ps.length C (fxIf N.length bt)) := by
  subst hbody
  refine F.ok S (fun vs H Q E h => h.1) (fun cdv A outer s H vs Q E hr h => ?_)
  obtain ⟨tc, ht, hg⟩ := hb cdv A outer s H E hr
  have tk : L2N.Takes (cxOf (L2N.CX P w) P w K mg base N qual scope f cdv A outer s H E) (fun cls d _ H => E cls d H) := L2N.takes_of rfl rfl rfl rfl
  have pr := L2N.ps_raise (pos := rp) rfl tk (pmk_own0 (p := p1) (pos := p2) FB q gC kC (raises_own r1 r2) hg hdb)
  refine ⟨_, pss_cons (ps_if ht.p (pss_cons pr pss_nil) pss_nil) pss_never, ?_⟩
  obtain ⟨hn, c, I, ds, s0, s1, r, sb, w0, hf, q⟩ := h
  have hl := r.length
  have sl : SlL ⟨K, P, w⟩ c I H (L2.start N vs) (ds.map Sl.im ++ List.replicate (N.length - ds.length) .un) := by
    unfold L2.start
    rw [hl]
    exact slL_start _ r
  have e0 : Ec ⟨K, P, w⟩ c I H (L2.start N vs) (ds.map Sl.im ++ List.replicate (N.length - ds.length) .un) s0 := ⟨sb, w0, sl, fun i j p d e _ _ _ h3 _ => (start_im h3).elim⟩
  obtain ⟨⟨b, s2⟩, h1, h2⟩ := bind_some_of hf
  split at h2
  · rename_i hb1
    have hb1 : b = true := hb1
    cases h2
    subst hb1
    refine ht.s _ _ _ _ _ _ _ _ e0 h1 _ fun I' H' g w' => ?_
    exact q I' H' g w'
  · cases h2
end
/-! try: f(..) except T as n: return e -/
noncomputable def tryEnd (i : Nat) (de : Addr → Dn) (ρ : List Sl) (s1 : Tau) : Option (Rs × Tau) :=
  open Classical in if h : ∃ r : D × Tau, ∀ a, de a (ρ.set i (.im (.fn (.ref a)))) s1 = some r then some (.rt (Classical.choose h).1 false, (Classical.choose h).2) else none
theorem tryEnd_of {i : Nat} {de : Addr → Dn} {ρ : List Sl} {s1 s2 : Tau} {d : D} (h3 : ∀ a, de a (ρ.set i (.im (.fn (.ref a)))) s1 = some (d, s2)) : tryEnd i de ρ s1 = some (.rt d false, s2) := by
  have h : ∃ r : D × Tau, ∀ a, de a (ρ.set i (.im (.fn (.ref a)))) s1 = some r := ⟨(d, s2), h3⟩
  unfold tryEnd
  rw [dif_pos h]
  have e := (Classical.choose_spec h 0).symm.trans (h3 0)
  injection e with e
  rw [e]
theorem tryEnd_some {i : Nat} {de : Addr → Dn} {ρ : List Sl} {s1 : Tau} {o : Rs} {s2 : Tau} (h : tryEnd i de ρ s1 = some (o, s2)) : ∃ d, o = .rt d false ∧ ∀ a, de a (ρ.set i (.im (.fn (.ref a)))) s1 = some (d, s2) := by
  unfold tryEnd at h
  split at h
  · rename_i hh
    have hall := Classical.choose_spec hh
    generalize Classical.choose hh = rr at h hall
    obtain ⟨d, s3⟩ := rr
    cases h
    exact ⟨d, rfl, hall⟩
  · cases h
noncomputable def dTryX (fx : Fx) (ax : Da) (i : Nat) (de : Addr → Dn) : Ds := fun ρ s => (ax ρ s).bind fun p => (fx p.1 p.2).bind fun s1 => tryEnd i de ρ s1
theorem tryX_of {fx : Fx} {ax : Da} {i : Nat} {de : Addr → Dn} {ρ : List Sl} {s s0 s1 s2 : Tau} {xs : List D} {d : D} (h1 : ax ρ s = some (xs, s0)) (h2 : fx xs s0 = some s1) (h3 : ∀ a, de a (ρ.set i (.im (.fn (.ref a)))) s1 = some (d, s2)) : dTryX fx ax i de ρ s = some (.rt d false, s2) := by
  unfold dTryX
  rw [h1]
  show (fx xs s0).bind _ = _
  rw [h2]
  exact tryEnd_of h3
abbrev oe0 (C : Addr) : Obj := { cls := .ref C, dict := none, data := .fields #[.none, .none, .none, .none, .bool false, .none] }
theorem oe0_zn (C : Addr) : L2N.Zn (.ref C) none (oe0 C) := ⟨rfl, rfl, fun vs e => by cases e; rfl⟩
section
variable {X : Cx}
/-- the arguments of the call, and what the suite returns -/
structure TryA (X : Cx) (es : List Expr) (ta : TA) (ax : Da) : Prop where
  p : ∀ (pn : List (Addr × Obj)) (xe : Value → Shared → Prop), PA (X.tr pn xe) es ta
  s : SndA X.kx ta ax
theorem trya_mk {es : List Expr} {ta : List (Addr × Obj) → (Value → Shared → Prop) → TA} {ax : Da} (h : ∀ (pn : List (Addr × Obj)) (xe : Value → Shared → Prop), EA (X.tr pn xe) es (ta pn xe) ax) (hg : ∀ (pn : List (Addr × Obj)) (xe : Value → Shared → Prop), ta pn xe = ta [] (fun _ _ => False) := by intros; rfl) : TryA X es (ta [] (fun _ _ => False)) ax :=
  ⟨fun pn xe => hg pn xe ▸ (h pn xe).p, (h [] fun _ _ => False).s⟩
structure SuiteR (X : Cx) (C : Addr) (r : Expr) (te : Addr → TE) (de : Addr → Dn) : Prop where
  p : ∀ (a : Addr) (oe : Obj) (pn : List (Addr × Obj)), L2N.Zn (.ref C) none oe → (∃ vs, oe.data = .fields vs) → PE (X.suite a ((a, oe) :: pn)) r (te a)
  s : ∀ a, SndE X.kx (te a) (de a)
theorem suite_mk {C : Addr} {r : Expr} {te : Addr → Obj → List (Addr × Obj) → TE} {de : Addr → Dn} (h : ∀ (a : Addr) (oe : Obj) (pn : List (Addr × Obj)), L2N.Zn (.ref C) none oe → (∃ vs, oe.data = .fields vs) → EE (X.suite a ((a, oe) :: pn)) r (te a oe pn) (de a)) (hg : ∀ (a : Addr) (oe : Obj) (pn : List (Addr × Obj)), te a oe pn = te a (oe0 C) [] := by intros; rfl) : SuiteR X C r (fun a => te a (oe0 C) []) de :=
  ⟨fun a oe pn z d => hg a oe pn ▸ (h a oe pn z d).p, fun a => (h a (oe0 C) [] (oe0_zn C) ⟨_, rfl⟩).s⟩
theorem es_tryX {i k j : Nat} {n f cx : Str} {c0 : Value} {C : Addr} {fx : Fx} {e : Expr} {es : List Expr} {ta : TA} {ax : Da} {r : Expr} {te : Addr → TE} {de : Addr → Dn} {p cpos epos np rpos hpos pos : Pos} (hsE : X.stack = X.env :: X.outer) (hf : X.env.frame = some X.env.locals) (hN : X.N.Nodup) (hi : X.N[i]? = some n) (hln : X.env.kindOf n = some .local)
    (hc : Names X cx c0) (h1 : PySem.W.exmOne X.K (.ref C) c0 = some true) {m : Nat} (F : CdX X.prog X.w X.K X.mg X.base k f m C fx) (hr : Room j X.A) (hk : k ≤ j) (hg : Gl X f) (ha : TryA X (e :: es) ta ax) (hl : ∀ ρ s ds s', ax ρ s = some (ds, s') → ds.length = m) (hsu : SuiteR X C r te de)
    (hdb : (f == ("__debug__" : Str)) = false := by decide) (he : ∀ (pn : List (Addr × Obj)) (xe : Value → Shared → Prop), starEach (e :: es) (X.tr pn xe).env = (false, eval e (X.tr pn xe).env) :: starEach es (X.tr pn xe).env := by intros; rfl) (hpl : (backTo cpos (starEach es X.env)).any (fun z => z.1) = false := by rfl)
    (hsw : swapsWith (.Call (.Name f p) (e :: es) [] cpos) none epos.line X.env = pure false := by rfl) :
    ES X (.Try [.Expr (.Call (.Name f p) (e :: es) [] cpos) epos] [.ExceptHandler (some (.Name cx np)) (some n) [.Return (some r) rpos] hpos] [] [] pos)
      (fun D σ H => tSeq (tDrop (tCallS (spX X.kx m C fx) (WE (wAs X.K c0 i (fun a cls d D σ H => (cls = .ref C ∧ d = none) ∧ tRet (te a) D σ H) (fun _ _ _ _ => False) D)) ta)) tNext D σ H) (dTryX fx ax i de) := by
  obtain ⟨f', fd, ps, hn, G, gm, kp, b⟩ := F.h
  refine ⟨?_, ?_⟩
  · refine L2N.ps_try_as (tb := fun W => tSeq (tDrop (tCallS (spX X.kx m C fx) (WE W) ta)) tNext) hsE hf hN hi hln hc takes0N (fun W pn xe tk _ => ?_) (fun a oe cls d pn hz hd => ?_)
    · exact pss_cons (ps_expr (X := X.tr pn xe) (pe_callS (X := X.tr pn xe) G (hr.mono hk) hg gm kp b (fun σ => L2N.passAt tk σ) (ha.p pn xe) hdb (he pn xe) hpl) hsw) pss_nil
    · refine ⟨fun pins s σ H D I h => ?_⟩
      obtain ⟨⟨rfl, rfl⟩, h⟩ := h
      exact (pss_one (ps_ret (hsu.p a oe pn hz hd))).run pins s σ H D I h
  · intro c I0 H0 I H σ ρ s o s' e h D q
    obtain ⟨⟨xs, s0⟩, h2, h⟩ := bind_some_of h
    obtain ⟨s1, h3, h⟩ := bind_some_of h
    obtain ⟨d, rfl, hall⟩ := tryEnd_some h
    refine ha.s _ _ _ _ _ _ _ _ e.env h2 _ fun vs I1 H1 g1 w1 r1 => ?_
    have e1 := e.grow g1 w1
    refine ⟨by rw [r1.length]; exact hl _ _ _ _ h2, c, I1, xs, s0, s1, r1, g1.s2, w1, h3, fun I2 H2 g2 w2 => ?_⟩
    have e2 := e1.grow g2 w2
    refine ⟨true, h1, fun _ a hna => ⟨⟨rfl, rfl⟩, ?_⟩, fun z => nomatch z⟩
    have e3 := e2.setI (v := .ref a) (d := .fn (.ref a)) (.fn _) i
    exact hsu.s a _ _ _ _ _ _ _ _ e3.env (hall a) _ fun v I3 H3 g3 w3 r3 => q v I3 H3 (e3.grow g3 w3).gr w3 r3
end
/-! isinstance(e, C2), e the exception that is handled -/
def dIsE (i : Nat) (b : Bool) (a : Addr) : Dn := fun ρ s => match ρ[i]? with
  | some (.im (.fn (.ref a'))) => if a' = a then some (.bl b, s) else none
  | _ => none
theorem ee_isE {X : Cx} {a C C2 : Addr} {oe : Obj} {pn : List (Addr × Obj)} {i : Nat} {n cx : Str} {b : Bool} {p p2 p3 pos : Pos} (EC : ExcC X.K C) (hz : L2N.Zn (.ref C) none oe) (hf : ∃ vs, oe.data = .fields vs) (hki : PySem.W.kitOne X.K (.ref C) (.ref C2) = some b)
    (hg : Gl X "isinstance") (hm : X.mg "isinstance" = none) (hx : PE (X.suite a ((a, oe) :: pn)) (.Name n p2) (tVar i)) (gC : X.mg cx = some (.ref C2)) (hgc : Gl X cx) (hdb : (cx == ("__debug__" : Str)) = false := by decide)
    (hs1 : starEach [.Name n p2, .Name cx p3] X.env = (false, eval (.Name n p2) X.env) :: starEach [.Name cx p3] X.env := by rfl) (hs2 : starEach [.Name cx p3] X.env = (false, eval (.Name cx p3) X.env) :: starEach [] X.env := by rfl) (hpl : (backTo pos (starEach [.Name cx p3] X.env)).any (fun z => z.1) = false := by rfl) :
    EE (X.suite a ((a, oe) :: pn)) (.Call (.Name "isinstance" p) [.Name n p2, .Name cx p3] [] pos) (tCB (rIsE X.K C a) (tCons (tVar i) (tCons (tC (.ref C2)) tNil))) (dIsE i b a) := by
  refine ⟨pe_callB (X := X.suite a ((a, oe) :: pn)) (call_isE EC hz.zc hf) hg hm (by decide +kernel) (pa_cons hx (pa_cons (pe_glob (X := X.suite a ((a, oe) :: pn)) (v := .ref C2) hgc gC rfl hdb) pa_nil hs2) hs1) (by decide) (by decide) hs1 hpl, ?_⟩
  intro c I H σ ρ s d s' e h Q q
  unfold dIsE at h
  split at h
  · rename_i a' ha
    split at h
    · rename_i hae
      subst hae
      cases h
      obtain ⟨v, hv, sv⟩ := e.sl.get ha
      cases sv with
      | @im v _ rv =>
        cases rv
        refine ⟨_, hv, ?_⟩
        exact ⟨.ref C2, .ref C2, b, rfl, fun u hu => hu, hki, q _ I H (.refl e.sub) e.w (.bl b)⟩
    · cases h
  · cases h

/-! facts of a class, as a test of K -/
def tyBx : Option Value → Bool
  | some (.type n) => n == "type"
  | _ => false
theorem tyBx_ok {x : Option Value} (h : tyBx x = true) : x = some (.type "type") := by
  unfold tyBx at h
  split at h
  · rw [beq_iff_eq.mp h]
  · cases h
def trB : Option Bool → Bool
  | some b => b
  | _ => false
theorem trB_ok {x : Option Bool} (h : trB x = true) : x = some true := by
  unfold trB at h
  split at h
  · rw [h]
  · cases h
def bltB (id : String) : Option (Option Value) → Bool
  | some (some (.builtin i)) => i == id
  | _ => false
theorem bltB_ok {id : String} {x : Option (Option Value)} (h : bltB id x = true) : x = some (some (.builtin id)) := by
  unfold bltB at h
  split at h
  · rw [beq_iff_eq.mp h]
  · cases h
def nonB : Option (Option Value) → Bool
  | some none => true
  | _ => false
theorem nonB_ok {x : Option (Option Value)} (h : nonB x = true) : x = some none := by
  unfold nonB at h
  split at h
  · rfl
  · cases h
def clsB (K : PySem.W.Frag) (C : Addr) : Bool :=
  (PySem.W.excIn K C [.type "ValueError", .type "Exception", .type "BaseException", .type "object"] "ValueError.__new__" && PySem.W.keepIn K (.ref C)) && ((trB (PySem.W.subIn K (.ref C) (.type "BaseException")) && tyBx (PySem.W.typeIn K (.ref C))) &&
  ((bltB "BaseException.__getattribute__" (PySem.W.findIn K (.ref C) "__getattribute__") && nonB (PySem.W.findIn K (.ref C) "__getattr__")) && ((PySem.W.hasDictIn K C && bltB "object.__class__" (PySem.W.findIn K (.ref C) "__class__")) &&
  ((bltB "getset_descriptor.__get__" (PySem.W.specialIn K (.builtin "object.__class__") "__get__") && trB (PySem.W.takesIn K (.builtin "object.__class__"))) && trB (PySem.W.mroIn K C (.type "object"))))))
structure ClsF (K : PySem.W.Frag) (C : Addr) : Prop where
  exc : PySem.W.excIn K C [.type "ValueError", .type "Exception", .type "BaseException", .type "object"] "ValueError.__new__" = true
  kp : PySem.W.keepIn K (.ref C) = true
  sub : PySem.W.subIn K (.ref C) (.type "BaseException") = some true
  ty : PySem.W.typeIn K (.ref C) = some (.type "type")
  ec : ExcC K C
theorem clsB_ok {K : PySem.W.Frag} {C : Addr} (h : clsB K C = true) : ClsF K C := by
  unfold clsB at h
  obtain ⟨h1, h2⟩ := Bool.and_eq_true_iff.mp h
  obtain ⟨a1, a2⟩ := Bool.and_eq_true_iff.mp h1
  obtain ⟨h3, h4⟩ := Bool.and_eq_true_iff.mp h2
  obtain ⟨b1, b2⟩ := Bool.and_eq_true_iff.mp h3
  obtain ⟨h5, h6⟩ := Bool.and_eq_true_iff.mp h4
  obtain ⟨c1, c2⟩ := Bool.and_eq_true_iff.mp h5
  obtain ⟨h7, h8⟩ := Bool.and_eq_true_iff.mp h6
  obtain ⟨d1, d2⟩ := Bool.and_eq_true_iff.mp h7
  obtain ⟨h9, m⟩ := Bool.and_eq_true_iff.mp h8
  obtain ⟨f1, f2⟩ := Bool.and_eq_true_iff.mp h9
  exact ⟨a1, a2, trB_ok b1, tyBx_ok b2, ⟨bltB_ok c1, nonB_ok c2, trB_ok b1, d1, bltB_ok d2, bltB_ok f1, trB_ok f2, trB_ok m⟩⟩
theorem hot1_of {A : Around} {C a : Addr} {oe : Obj} (hz : L2N.Zn (.ref C) none oe) (hf : ∃ vs, oe.data = .fields vs) : L2H.Hot1 (A.mark (some (.ref a))) (a, oe) := by
  obtain ⟨vs, e⟩ := hf
  cases q : vs[2]? with
  | none => exact ⟨rfl, vs, e, hz.2.2 vs e⟩
  | some v => exact ⟨rfl, vs, e, hz.2.2 vs e⟩
end Dl
end
section
set_option Elab.async false
set_option linter.all false
set_option maxRecDepth 100000
set_option maxHeartbeats 4000000
namespace Dl
open PySem PySem.Spec PyProof.Rows L2 StX RZ HotX
/-! tuple * int -/
def mulTD : D → D → Option D
  | d, .int n => d.asT.bind fun xs => if decide (2 ≤ n ∧ n ≤ 1000 ∧ xs.length ≤ 1000 ∧ 0 < xs.length) = true then some (.ktp (List.replicate n.toNat xs).flatten) else none
  | _, _ => none
theorem s2_mulT {K : Kx} : Snd2 K (rRepT K) mulTD := fun c I H x y d e z s rx ry h Q q => by
  unfold mulTD at h
  split at h
  · obtain ⟨xs, h1, h⟩ := bind_some_of h
    split at h
    · rename_i hc
      have hc := of_decide_eq_true hc
      cases h; cases ry
      obtain ⟨a, us, rfl, ha, ra⟩ := rx.asT h1
      have hl := ra.length
      exact ⟨_, _, _, rfl, rfl, s.sqT ha, fun e => by rw [e] at hl; have : 0 = xs.length := hl; omega, hc.1, hc.2.1, by omega, fun p hp => q.ktp s hp (ra.rep _)⟩
    · cases h
  · cases h
theorem ee_mulT {X : Cx} {a b : Expr} {ta tb : TE} {da db : Dn} {pos : Pos} (ha : EE X a ta da) (hb : EE X b tb db) : EE X (.BinOp a .Mult b pos) (tOp (rRepT X.kx) ta tb) (dOp mulTD da db) := ee_op op_repT s2_mulT ha hb
end Dl
end
section
set_option Elab.async false
set_option linter.all false
set_option maxRecDepth 100000
set_option maxHeartbeats 4000000
namespace Dl
open PySem PySem.Spec PyProof.Rows L2 StX RZ GS
/-! sorted(set(xs)), xs a list of rows of texts -/
theorem ltT_tr {x y z : List Str} (h1 : ltT x y = true) (h2 : ltT y z = true) : ltT x z = true := decide_eq_true (List.lt_trans (of_decide_eq_true h1) (of_decide_eq_true h2))
theorem ltT_irr (x : List Str) : ltT x x = false := decide_eq_false (List.lt_irrefl _)
theorem ltT_as {x y : List Str} (h : ltT x y = true) : ltT y x = false := decide_eq_false fun h' => List.lt_asymm (of_decide_eq_true h) h'
def insU (x : List Str) : List (List Str) → List (List Str)
  | [] => [x]
  | y :: ys => if x = y then y :: ys else if ltT y x = true then y :: insU x ys else x :: y :: ys
def srtU : List (List Str) → List (List Str)
  | [] => []
  | x :: xs => insU x (srtU xs)
theorem insU_mem {x z : List Str} : ∀ {ys : List (List Str)}, z ∈ insU x ys ↔ z = x ∨ z ∈ ys
  | [] => by simp [insU]
  | y :: ys => by
    unfold insU
    split
    · rename_i e
      subst e
      simp
    · split
      · rw [List.mem_cons, insU_mem, List.mem_cons]
        exact ⟨fun h => by rcases h with h | h | h <;> simp [h], fun h => by rcases h with h | h | h <;> simp [h]⟩
      · rw [List.mem_cons]
theorem srtU_mem {z : List Str} : ∀ {xs : List (List Str)}, z ∈ srtU xs ↔ z ∈ xs
  | [] => by simp [srtU]
  | x :: xs => by
    show z ∈ insU x (srtU xs) ↔ _
    rw [insU_mem, srtU_mem, List.mem_cons]
def Strict (l : List (List Str)) : Prop := l.Pairwise fun a b => ltT a b = true
theorem insU_strict {x : List Str} : ∀ {ys : List (List Str)}, Strict ys → Strict (insU x ys)
  | [], _ => List.pairwise_singleton _ _
  | y :: ys, h => by
    have h1 := List.pairwise_cons.mp h
    unfold insU
    split
    · exact h
    · rename_i ne
      split
      · rename_i hl
        refine List.pairwise_cons.mpr ⟨fun z hz => ?_, insU_strict h1.2⟩
        rcases insU_mem.mp hz with e | hz
        · rw [e]; exact hl
        · exact h1.1 z hz
      · rename_i hl
        have hl : ltT y x = false := by simpa using hl
        have hx : ltT x y = true := by
          cases q : ltT x y with
          | true => rfl
          | false => exact absurd (ltT_total q hl) ne
        refine List.pairwise_cons.mpr ⟨fun z hz => ?_, h⟩
        rcases List.mem_cons.mp hz with e | hz
        · rw [e]; exact hx
        · exact ltT_tr hx (h1.1 z hz)
theorem srtU_strict : ∀ xs : List (List Str), Strict (srtU xs)
  | [] => .nil
  | _ :: xs => insU_strict (srtU_strict xs)
theorem strict_uniq : ∀ {xs ys : List (List Str)}, Strict xs → Strict ys → (∀ z, z ∈ xs ↔ z ∈ ys) → xs = ys
  | [], [], _, _, _ => rfl
  | [], y :: ys, _, _, h => absurd ((h y).mpr List.mem_cons_self) (by simp)
  | x :: xs, [], _, _, h => absurd ((h x).mp List.mem_cons_self) (by simp)
  | x :: xs, y :: ys, h1, h2, h => by
    have a1 := List.pairwise_cons.mp h1
    have a2 := List.pairwise_cons.mp h2
    have e : x = y := by
      rcases List.mem_cons.mp ((h x).mp List.mem_cons_self) with m | m
      · exact m
      · rcases List.mem_cons.mp ((h y).mpr List.mem_cons_self) with m2 | m2
        · exact m2.symm
        · have b1 := ltT_as (a2.1 x m)
          rw [a1.1 y m2] at b1
          cases b1
    subst e
    have no1 : x ∉ xs := fun m => by have := a1.1 x m; rw [ltT_irr] at this; cases this
    have no2 : x ∉ ys := fun m => by have := a2.1 x m; rw [ltT_irr] at this; cases this
    rw [strict_uniq a1.2 a2.2 fun z => ⟨fun m => by
      rcases List.mem_cons.mp ((h z).mp (List.mem_cons_of_mem _ m)) with e | q
      · subst e; exact absurd m no1
      · exact q, fun m => by
      rcases List.mem_cons.mp ((h z).mpr (List.mem_cons_of_mem _ m)) with e | q
      · subst e; exact absurd m no2
      · exact q⟩]
theorem strict_of : ∀ {xs : List (List Str)}, SrtO.Srtd ltT xs → xs.Nodup → Strict xs := fun {xs} h1 h2 => by
  refine List.Pairwise.imp₂ (fun a b (h : ltT b a = false) (ne : a ≠ b) => ?_) h1 h2
  cases q : ltT a b with
  | true => rfl
  | false => exact absurd (ltT_total q h) ne
abbrev RowsAt (K : Kx) (H : Hp) (ks : List (Addr × List Str)) : Prop := ∀ p ∈ ks, SqT K H p.1 (p.2.map V.str) ∧ p.2 ≠ []
def tSortSet (K : Kx) (ta : TE) : TE := fun σ H Q => ta σ H fun x H1 => ∃ (l : Addr) (ks : List (Addr × List Str)), x = .ref l ∧ SqL K H1 l (ks.map fun p => V.ref p.1) ∧ RowsAt K H1 ks ∧ ks.length < 64 ∧
  ∀ (L' : List (Addr × List Str)) (p : Addr), (∀ q ∈ L', q ∈ ks) → (∀ q ∈ ks, q.2 ∈ L'.map (·.2)) → (L'.map (·.2)).Nodup → SrtO.Srtd ltT (L'.map (·.2)) → H1 p = none → Q (.ref p) (upd H1 p (.lst (L'.map fun q => V.ref q.1)))
theorem strs_items {P : Program} {w : World} : ∀ {k : List Str} {us : List Value}, Vals (k.map V.str) us → ItemsAre (PySem.strKind P w) k us
  | [], _, .nil => .nil
  | n :: k, _, .cons r t => by
    obtain ⟨tk, rfl⟩ := r
    exact .cons (strKind_is P w n tk) (strs_items t)
theorem isR_of {X : Cx} {pins : List (Addr × Obj)} {σ : L2.St} {H : Hp} {s : Shared} {b : Addr} {k : List Str} (I : Inv X pins σ H s) (h : SqT X.K H b (k.map V.str)) : IsR X.prog X.w s.heap k b := by
  obtain ⟨its, r, ⟨o, ho, hc, n, hd⟩, _⟩ := I.tuple h
  exact ⟨o, its.toArray, n, ho, hc, hd, by simpa using strs_items r⟩
theorem refs_are : ∀ {ks : List (Addr × List Str)} {us : List Value}, Vals (ks.map fun p => V.ref p.1) us → us = ks.map fun p => Value.ref p.1
  | [], _, .nil => rfl
  | p :: ks, _, .cons r t => by
    cases r
    rw [refs_are t]; rfl
theorem refs_vals : ∀ (ks : List (Addr × List Str)), Vals (ks.map fun p => V.ref p.1) (ks.map fun p => Value.ref p.1)
  | [] => .nil
  | p :: ks => .cons rfl (refs_vals ks)
theorem sort_step {X : Cx} {pins : List (Addr × Obj)} {σ : L2.St} {H1 : Hp} {s2 : Shared} {a : Addr} {ks : List (Addr × List Str)} {Q : VK} (I2 : Inv X pins σ H1 s2) (hc : X.calm = true) (hA : At (PySem.strKind X.prog X.w) ks a ks.length s2.heap) (hne : ∀ p ∈ ks, p.2 ≠ []) (few : ks.length < 64)
    (q1 : ∀ (L' : List (Addr × List Str)) (p : Addr), (∀ q ∈ L', q ∈ ks) → (∀ q ∈ ks, q.2 ∈ L'.map (·.2)) → (L'.map (·.2)).Nodup → SrtO.Srtd ltT (L'.map (·.2)) → H1 p = none → Q (.ref p) (upd H1 p (.lst (L'.map fun q => V.ref q.1)))) :
    wpAny (model X.prog X.w) X.A (call (.builtin "sorted") [.ref a]) (EP X pins σ Q) X.xe s2 := by
  refine sorted_set (s := s2) hA rfl (I2.ok.hd hc) hne fun s' p L' c k g o hp hgl m1 m2 m3 m4 => ?_
  have hn : H1 p = none := I2.hok.fresh hp
  have hlen : (L'.map fun q => V.ref q.1).length ≤ sizeLine := by
    have z : (L'.map (·.2)).length ≤ (ks.map (·.2)).length := List.Nodup.length_le_of_subset m3 fun y hy => by
      obtain ⟨t, ht, rfl⟩ := List.mem_map.mp hy
      exact List.mem_map.mpr ⟨t, m1 t ht, rfl⟩
    rw [List.length_map, List.length_map] at z
    rw [List.length_map, sizeLine_eq]; omega
  have J : Inv X pins σ (upd H1 p (.lst (L'.map fun q => V.ref q.1))) { s2 with heap := s'.heap, gens := s'.gens, drawn := s'.drawn, toks := s'.toks } :=
    I2.call (ch := []) (Un.laid k hp hn) (I2.hok.laid k hp ⟨hlen, _, c, refs_vals L', hgl⟩) (by rw [g]; exact I2.bare) (fun _ z => nomatch z)
  have e : s' = { s2 with heap := s'.heap, gens := s'.gens, drawn := s'.drawn, toks := s'.toks } := by
    cases s'
    cases s2
    cases o
    rfl
  rw [e]
  exact ⟨.ref p, _, J, rfl, q1 L' p m1 m2 m3 m4 hn⟩
theorem pe_sortSet {X : Cx} {a : Expr} {ta : TE} {j : Nat} {p p2 q pos : Pos} (hr : Room j X.A) (hc : X.calm = true) (hg : Gl X "sorted") (hm : X.mg "sorted" = none) (hg2 : Gl X "set") (hm2 : X.mg "set" = none) (ha : PE X a ta)
    (na : starEach [a] X.env = (false, eval a X.env) :: starEach [] X.env := by rfl) : PE X (.Call (.Name "sorted" p) [.Call (.Name "set" p2) [a] [] q] [] pos) (tSortSet X.kx ta) := by
  refine ⟨fun pins s σ H Q I h => Call_ (ld_blt I hg hm boot_sorted (PyProof.Rows.callWith_builtin1 (PyProof.Rows.args_cons (Call_ (ld_blt I hg2 hm2 boot_set (PyProof.Rows.callWith_type1 (PyProof.Rows.args_cons (thn (ha.run pins s σ H _ I h) fun v s1 z => PyProof.Rows.args_nil ?_) na) na rfl))) rfl) rfl rfl))⟩
  obtain ⟨x, H1, I1, r1, l, ks, rfl, hq, tp, few, q1⟩ := z
  obtain rfl : v = Value.ref l := r1
  obtain ⟨its, r, pl, hz⟩ := I1.list hq
  refine set_tups (knd := PySem.strKind X.prog X.w) ks (I1.ok.hd hc) pl.isList (by simpa using refs_are r) (fun p hp => isR_of I1 (tp p hp).1) few (by have := hr.units; omega) fun h' tk hA hk => ?_
  refine PyProof.Rows.args_nil ?_
  have I2 : Inv X pins σ H1 { s1 with heap := h', toks := tk } := I1.kept hk
  exact sort_step I2 hc hA (fun p hp => (tp p hp).2) few q1
/-- no row is empty -/
def dSortSet (da : Dn) : Dn := fun ρ s => (da ρ s).bind fun p => match p.1 with
  | .lst ds => (rowsOf ds).bind fun rs => if rs.length < 64 ∧ (rs.all fun r => !r.isEmpty) = true then some (.lst ((srtU rs).map fun r => .ktp (r.map D.str)), p.2) else none
  | _ => none
theorem strs_repL' {K : Kx} {c : Option Addr} {I : Hp} : ∀ k : List Str, RepL K c I (k.map V.str) (k.map D.str)
  | [] => .nil
  | x :: k => .cons (.str x) (strs_repL' k)
theorem rows_repL {K : Kx} {c : Option Addr} {I : Hp} : ∀ ks : List (Addr × List Str), (∀ p ∈ ks, SqT K I p.1 (p.2.map V.str)) → RepL K c I (ks.map fun p => V.ref p.1) ((ks.map (·.2)).map fun r => .ktp (r.map D.str))
  | [], _ => .nil
  | p :: ks, h => .cons (.ktp (h p List.mem_cons_self) (strs_repL' p.2)) (rows_repL ks fun q hq => h q (List.mem_cons_of_mem _ hq))
theorem sn_sortSet {K : Kx} {te : TE} {da : Dn} (h1 : SndE K te da) : SndE K (tSortSet K te) (dSortSet da) := fun c I H σ ρ s d s' e h Q q => by
  obtain ⟨⟨x, s1⟩, ha, h⟩ := bind_some_of h
  refine h1 _ _ _ _ _ _ _ _ e ha _ fun v I1 H1 g1 w1 r1 => ?_
  dsimp only at h
  split at h
  · obtain ⟨rs, h2, h⟩ := bind_some_of h
    split at h
    · rename_i hc
      cases h
      cases r1 with
      | @lst a vs _ hI r =>
        obtain ⟨ks, rfl, rfl, hk⟩ := rowsOf_rep r h2
        rw [List.length_map] at hc
        refine ⟨a, ks.map fun k => (k.2, k.1), rfl, ?_, fun p hp => ?_, by rw [List.length_map]; exact hc.1, fun L' p m1 m2 m3 m4 hp => ?_⟩
        · rw [List.map_map]
          exact .of (g1.s2.lst hI)
        · obtain ⟨k, hk', rfl⟩ := List.mem_map.mp hp
          refine ⟨g1.s2.sqT (hk k hk'), fun e => ?_⟩
          have := List.all_eq_true.mp hc.2 k.1 (List.mem_map.mpr ⟨k, hk', rfl⟩)
          rw [show k.1 = [] from e] at this
          cases this
        · have es : L'.map (·.2) = srtU (ks.map fun k => k.1) := strict_uniq (strict_of m4 m3) (srtU_strict _) fun z => by
            rw [srtU_mem]
            refine ⟨fun hz => ?_, fun hz => ?_⟩
            · obtain ⟨t, ht, rfl⟩ := List.mem_map.mp hz
              obtain ⟨k, hk', e⟩ := List.mem_map.mp (m1 t ht)
              exact List.mem_map.mpr ⟨k, hk', by rw [← e]⟩
            · obtain ⟨k, hk', rfl⟩ := List.mem_map.mp hz
              exact m2 (k.2, k.1) (List.mem_map.mpr ⟨k, hk', rfl⟩)
          have g := Gr.new (o := .lst (L'.map fun q => V.ref q.1)) g1.s2 hp
          have rl : RepL K c (upd I1 p (.lst (L'.map fun q => V.ref q.1))) (L'.map fun p => V.ref p.1) ((srtU (ks.map fun k => k.1)).map fun r => .ktp (r.map D.str)) := by
            rw [← es]
            refine rows_repL L' fun t ht => ?_
            obtain ⟨k, hk', rfl⟩ := List.mem_map.mp (m1 t ht)
            exact sb_sqT g.s1 (hk k hk')
          exact q _ _ _ (g1.tr w1 g.up) (w1.gr g.up) (.lst upd_same rl)
      | _ => skip
    · cases h
  · cases h
theorem ee_sortSet {X : Cx} {a : Expr} {ta : TE} {da : Dn} {j : Nat} {p p2 q pos : Pos} (hr : Room j X.A) (hc : X.calm = true) (hg : Gl X "sorted") (hm : X.mg "sorted" = none) (hg2 : Gl X "set") (hm2 : X.mg "set" = none) (ha : EE X a ta da)
    (na : starEach [a] X.env = (false, eval a X.env) :: starEach [] X.env := by rfl) : EE X (.Call (.Name "sorted" p) [.Call (.Name "set" p2) [a] [] q] [] pos) (tSortSet X.kx ta) (dSortSet da) := ⟨pe_sortSet hr hc hg hm hg2 hm2 ha.p na, sn_sortSet ha.s⟩
end Dl
end
section
set_option Elab.async false
set_option linter.all false
set_option maxRecDepth 100000
set_option maxHeartbeats 4000000
namespace Dl
open PySem PySem.Spec PyProof.Rows L2 StX RZ GS
/-! sorted(xs), xs a list of rows of texts, no two alike -/
def rSortedR (K : PySem.W.Frag) : List V → Hp → VK → Prop := fun vs H Q => ∃ (l : Addr) (ks : List (Addr × List Str)), vs = [V.ref l] ∧ SqL K H l (ks.map fun p => V.ref p.1) ∧ (∀ p ∈ ks, SqT K H p.1 (p.2.map V.str) ∧ p.2 ≠ []) ∧ ks.length ≤ 1000 ∧
  ∀ (L' : List (Addr × List Str)) (p : Addr), L'.Perm ks → SrtO.Srtd ltT (L'.map (·.2)) → H p = none → Q (.ref p) (upd H p (.lst (L'.map fun q => V.ref q.1)))
theorem cr_sortedR {X : Cx} : CallR X (.builtin "sorted") (rSortedR X.K) := by
  intro pins s σ H vs us Q I r h
  obtain ⟨l, ks, rfl, hq, tp, few, q1⟩ := h
  rw [Vals.ref1 r]
  obtain ⟨its, rv, pl, hz⟩ := I.list hq
  refine sorted_list pl.isList (by simpa using refs_are rv) (by rw [sizeLine_eq]; omega) (fun p hp => ⟨isR_of I (tp p hp).1, (tp p hp).2⟩) fun h' d L' pm so kp hd hn => ?_
  obtain ⟨n, hn⟩ := hn
  exact ⟨.ref d, _, I.laid (t' := s.toks) (o := .lst (L'.map fun q => V.ref q.1)) kp hd ⟨by rw [List.length_map, pm.length_eq, sizeLine_eq]; omega, _, n, refs_vals L', hn⟩, rfl, q1 L' d pm so (I.hok.fresh hd)⟩
def sortedRD : List D → Option D
  | [.lst ds] => (rowsOf ds).bind fun rs => if rs.length ≤ 1000 ∧ rs.Nodup ∧ (rs.all fun r => !r.isEmpty) = true then some (.lst ((srtU rs).map fun r => .ktp (r.map D.str))) else none
  | _ => none
theorem sl_sortedR {X : Cx} : SndL X.kx (rSortedR X.K) sortedRD := fun c I H xs ds z s rx h Q q => by
  unfold sortedRD at h
  split at h
  · obtain ⟨rs, h2, h⟩ := bind_some_of h
    split at h
    · rename_i hc
      cases h
      cases rx with
      | cons a r =>
        cases r
        cases a with
        | @lst a vs _ hI r =>
          obtain ⟨ks, rfl, rfl, hk⟩ := rowsOf_rep r h2
          rw [List.length_map] at hc
          refine ⟨a, ks.map fun k => (k.2, k.1), rfl, ?_, fun p hp => ?_, by rw [List.length_map]; exact hc.1, fun L' p pm so hp => ?_⟩
          · rw [List.map_map]
            exact .of (s.lst hI)
          · obtain ⟨k, hk', rfl⟩ := List.mem_map.mp hp
            refine ⟨s.sqT (hk k hk'), fun e => ?_⟩
            have := List.all_eq_true.mp hc.2.2 k.1 (List.mem_map.mpr ⟨k, hk', rfl⟩)
            rw [show k.1 = [] from e] at this
            cases this
          · have pk : (L'.map (·.2)).Perm (ks.map fun k => k.1) := by
              have z := pm.map (·.2)
              rw [List.map_map] at z
              exact z
            have es : L'.map (·.2) = srtU (ks.map fun k => k.1) := strict_uniq (strict_of so (pk.nodup_iff.mpr hc.2.1)) (srtU_strict _) fun z => by
              rw [srtU_mem]
              exact pk.mem_iff
            have g := Gr.new (o := .lst (L'.map fun q => V.ref q.1)) s hp
            have rl : RepL X.kx c (upd I p (.lst (L'.map fun q => V.ref q.1))) (L'.map fun p => V.ref p.1) ((srtU (ks.map fun k => k.1)).map fun r => .ktp (r.map D.str)) := by
              rw [← es]
              refine rows_repL L' fun t ht => ?_
              obtain ⟨k, hk', rfl⟩ := List.mem_map.mp (pm.mem_iff.mp ht)
              exact sb_sqT g.s1 (hk k hk')
            exact q _ _ _ g (.lst upd_same rl)
    · cases h
  · cases h
end Dl
end
section
set_option Elab.async false
set_option linter.all false
set_option maxRecDepth 100000
set_option maxHeartbeats 4000000
namespace Dl
open PySem L2 PyProof.Rows
/-! plain facts of the data's meanings -/
theorem shaped_str {x : Str} (h : PyData.strOk x = true) : SeqAt.shaped (.str x) = true := by
  unfold SeqAt.shaped
  rw [Bool.and_eq_true]
  exact ⟨h, rfl⟩
theorem eqB_str {a b : Str} (ha : PyData.strOk a = true) (hb : PyData.strOk b = true) : eqB (.str a) (.str b) = some (a == b) := by
  unfold eqB
  show (if (SeqAt.shaped (.str a) && SeqAt.shaped (.str b)) = true then some (PyData.eqv (.str a) (.str b)) else none) = _
  rw [if_pos (by rw [shaped_str ha, shaped_str hb]; rfl)]
  rfl
theorem eqD_str {a b : Str} (ha : PyData.strOk a = true) (hb : PyData.strOk b = true) : eqD (.str a) (.str b) = some (.bl (a == b)) := by
  unfold eqD; rw [eqB_str ha hb]; rfl
theorem neD_str {a b : Str} (ha : PyData.strOk a = true) (hb : PyData.strOk b = true) : neD (.str a) (.str b) = some (.bl (!(a == b))) := by
  unfold neD; rw [eqB_str ha hb]; rfl
theorem eqD_int (a b : Int) : eqD (.int a) (.int b) = some (.bl (a == b)) := rfl
theorem neD_int (a b : Int) : neD (.int a) (.int b) = some (.bl (!(a == b))) := rfl
theorem eqD_bl (a b : Bool) : eqD (.bl a) (.bl b) = some (.bl (a == b)) := rfl
theorem neD_bl (a b : Bool) : neD (.bl a) (.bl b) = some (.bl (!(a == b))) := rfl
/-- equal data -/
theorem eqB_of {d e : D} {x y : PyData} (hx : d.conv = some x) (hy : e.conv = some y) (sx : SeqAt.shaped x = true) (sy : SeqAt.shaped y = true) : eqB d e = some (PyData.eqv x y) := by
  unfold eqB
  rw [hx, hy]
  show (if (SeqAt.shaped x && SeqAt.shaped y) = true then some (PyData.eqv x y) else none) = _
  rw [if_pos (by rw [sx, sy]; rfl)]
theorem eqD_refl {d e : D} {x : PyData} (hx : d.conv = some x) (hy : e.conv = some x) (sx : SeqAt.shaped x = true) : eqD d e = some (.bl true) := by
  unfold eqD
  rw [eqB_of hx hy sx sx, SeqAt.eqv_refl x (SeqAt.canLay_of_shaped sx)]; rfl
/-! control -/
section
variable {t : Dt} {a b c : Ds} {ρ : List Sl} {s s1 s2 : Tau} {d : D} {o : Bool} {r : Option (Rs × Tau)} {f : Fn} {dn : Ds} {m : Nat} {ds : List D}
theorem seq_ifT (h : t ρ s = some (true, s1)) (h2 : a ρ s1 = some (.rt d o, s2)) : dSeq (dIfS t a b) c ρ s = some (.rt d o, s2) := by
  unfold dSeq dIfS
  rw [h]
  show ((if true = true then a ρ s1 else b ρ s1).bind _) = _
  rw [if_pos rfl, h2]; rfl
theorem seq_ifF (h : t ρ s = some (false, s1)) (h2 : c ρ s1 = r) : dSeq (dIfS t a dNext) c ρ s = r := by
  unfold dSeq dIfS
  rw [h]; exact h2
theorem sT (h : t ρ s = some (true, s)) (h2 : a ρ s = some (.rt d o, s2)) : dSeq (dIfS t a b) c ρ s = some (.rt d o, s2) := seq_ifT h h2
theorem sF (h : t ρ s = some (false, s)) (h2 : c ρ s = r) : dSeq (dIfS t a dNext) c ρ s = r := seq_ifF h h2
theorem sN {ρ1 : List Sl} (h : a ρ s = some (.nx ρ1, s)) (h2 : b ρ1 s = r) : dSeq a b ρ s = r := by
  unfold dSeq
  rw [h]; exact h2
theorem sA {ρ1 : List Sl} (h : t ρ s = some (true, s)) (h2 : a ρ s = some (.nx ρ1, s)) (h3 : c ρ1 s = r) : dSeq (dIfS t a b) c ρ s = r := by
  unfold dSeq dIfS
  rw [h]
  show ((if true = true then a ρ s else b ρ s).bind _) = _
  rw [if_pos rfl, h2]; exact h3
theorem seq_nx {ρ1 : List Sl} (h : a ρ s = some (.nx ρ1, s1)) (h2 : b ρ1 s1 = r) : dSeq a b ρ s = r := by
  unfold dSeq
  rw [h]; exact h2
theorem seq_rt (h : a ρ s = some (.rt d o, s1)) : dSeq a b ρ s = some (.rt d o, s1) := by
  unfold dSeq
  rw [h]; rfl
theorem ifT (h : t ρ s = some (true, s1)) (h2 : a ρ s1 = r) : dIfS t a b ρ s = r := by
  unfold dIfS
  rw [h]; exact h2
theorem ifF (h : t ρ s = some (false, s1)) (h2 : b ρ s1 = r) : dIfS t a b ρ s = r := by
  unfold dIfS
  rw [h]; exact h2
theorem ret_of {x : Dn} (h : x ρ s = some (d, s1)) : dRet x ρ s = some (.rt d false, s1) := by
  unfold dRet
  rw [h]; rfl
theorem fn_rt {m : Nat} {ds : List D} (h : dn (ds.map Sl.im ++ List.replicate (m - ds.length) .un) s = some (.rt d o, s1)) : fnD m dn ds s = some ((d, o), s1) := by
  unfold fnD
  rw [h]; rfl
theorem fn_nx {m : Nat} {ds : List D} {ρ1 : List Sl} (h : dn (ds.map Sl.im ++ List.replicate (m - ds.length) .un) s = some (.nx ρ1, s1)) : fnD m dn ds s = some ((.non, false), s1) := by
  unfold fnD
  rw [h]; rfl
theorem call_of {ax : Da} {xs : List D} (h : ax ρ s = some (xs, s1)) (h2 : f xs s1 = some ((d, o), s2)) : dCall f ax ρ s = some (d, s2) := by
  unfold dCall
  rw [h]
  show Option.map _ (f xs s1) = _
  rw [h2]; rfl
end
/-! values -/
section
variable {ρ : List Sl} {s s1 s2 : Tau} {x y z : D} {da db : Dn} {ax ar : Da} {b : Bool} {bt : Dt}
theorem op_of {f : D → D → Option D} (h1 : da ρ s = some (x, s1)) (h2 : db ρ s1 = some (y, s2)) (h3 : f x y = some z) : dOp f da db ρ s = some (z, s2) := by
  unfold dOp
  rw [h1]
  show Option.bind (db ρ s1) _ = _
  rw [h2]
  show Option.map _ (f x y) = _
  rw [h3]; rfl
theorem un_of {f : D → Option D} (h1 : da ρ s = some (x, s1)) (h3 : f x = some z) : dUn f da ρ s = some (z, s1) := by
  unfold dUn
  rw [h1]
  show Option.map _ (f x) = _
  rw [h3]; rfl
theorem cons_of {xs : List D} (h1 : da ρ s = some (x, s1)) (h2 : ar ρ s1 = some (xs, s2)) : dCons da ar ρ s = some (x :: xs, s2) := by
  unfold dCons
  rw [h1]
  show Option.map _ (ar ρ s1) = _
  rw [h2]; rfl
theorem one_of (h1 : da ρ s = some (x, s1)) : dCons da dNil ρ s = some ([x], s1) := cons_of h1 rfl
theorem callB_of {f : List D → Option D} {xs : List D} (h1 : ax ρ s = some (xs, s1)) (h3 : f xs = some z) : dCallB f ax ρ s = some (z, s1) := by
  unfold dCallB
  rw [h1]
  show Option.map _ (f xs) = _
  rw [h3]; rfl
theorem b_of (h1 : da ρ s = some (.bl b, s1)) : dB da ρ s = some (b, s1) := by
  unfold dB
  rw [h1]; rfl
theorem not_of (h1 : bt ρ s = some (b, s1)) : dNot bt ρ s = some (!b, s1) := by
  unfold dNot
  rw [h1]; rfl
theorem asg_of {i : Nat} (h1 : da ρ s = some (x, s1)) : dAsg da (gdName i) ρ s = some (.nx (ρ.set i (.im x)), s1) := by
  unfold dAsg
  rw [h1]; rfl
theorem drop_of (h1 : da ρ s = some (x, s1)) : dDrop da ρ s = some (.nx ρ, s1) := by
  unfold dDrop
  rw [h1]; rfl
theorem iT {r : Option (D × Tau)} (h1 : bt ρ s = some (true, s)) (h2 : da ρ s = r) : dIf bt da db ρ s = r := by
  unfold dIf
  rw [h1]; exact h2
theorem iF {r : Option (D × Tau)} (h1 : bt ρ s = some (false, s)) (h2 : db ρ s = r) : dIf bt da db ρ s = r := by
  unfold dIf
  rw [h1]; exact h2
theorem iteT {r : Option (D × Tau)} (h1 : bt ρ s = some (true, s1)) (h2 : da ρ s1 = r) : dIf bt da db ρ s = r := by
  unfold dIf
  rw [h1]; exact h2
theorem iteF {r : Option (D × Tau)} (h1 : bt ρ s = some (false, s1)) (h2 : db ρ s1 = r) : dIf bt da db ρ s = r := by
  unfold dIf
  rw [h1]; exact h2
theorem ifE_of (h1 : bt ρ s = some (b, s1)) (h2 : b = true → da ρ s1 = some (x, s2)) (h3 : b = false → db ρ s1 = some (x, s2)) : dIf bt da db ρ s = some (x, s2) := by
  unfold dIf
  rw [h1]
  cases b with
  | true => exact h2 rfl
  | false => exact h3 rfl
theorem ifE_val (h1 : bt ρ s = some (b, s1)) (h2 : da ρ s1 = some (x, s2)) (h3 : db ρ s1 = some (y, s2)) : dIf bt da db ρ s = some (if b then x else y, s2) := by
  unfold dIf
  rw [h1]
  cases b with
  | true => exact h2
  | false => exact h3
theorem orF_of {a b : Dt} {r : Option (Bool × Tau)} (h1 : a ρ s = some (false, s1)) (h2 : b ρ s1 = r) : dOr a b ρ s = r := by
  unfold dOr
  rw [h1]; exact h2
theorem orT_of {a b : Dt} (h1 : a ρ s = some (true, s1)) : dOr a b ρ s = some (true, s1) := by
  unfold dOr
  rw [h1]; rfl
theorem or_val {a b : Dt} {x y : Bool} (h1 : a ρ s = some (x, s1)) (h2 : x = false → b ρ s1 = some (y, s1)) : dOr a b ρ s = some (x || y, s1) := by
  cases x with
  | true => exact orT_of h1
  | false => exact orF_of h1 (h2 rfl)
theorem andT_of {a b : Dt} {r : Option (Bool × Tau)} (h1 : a ρ s = some (true, s1)) (h2 : b ρ s1 = r) : dAnd a b ρ s = r := by
  unfold dAnd
  rw [h1]; exact h2
theorem andF_of {a b : Dt} (h1 : a ρ s = some (false, s1)) : dAnd a b ρ s = some (false, s1) := by
  unfold dAnd
  rw [h1]; rfl
theorem and_val {a b : Dt} {x y : Bool} (h1 : a ρ s = some (x, s1)) (h2 : x = true → b ρ s1 = some (y, s1)) : dAnd a b ρ s = some (x && y, s1) := by
  cases x with
  | true => exact andT_of h1 (h2 rfl)
  | false => exact andF_of h1
theorem andVT_of {r : Option (D × Tau)} (h1 : da ρ s = some (.bl true, s1)) (h2 : db ρ s1 = r) : dAndV da db ρ s = r := by
  unfold dAndV
  rw [h1]; exact h2
theorem andVF_of (h1 : da ρ s = some (.bl false, s1)) : dAndV da db ρ s = some (.bl false, s1) := by
  unfold dAndV
  rw [h1]; rfl
theorem andV_val {x y : Bool} (h1 : da ρ s = some (.bl x, s1)) (h2 : x = true → db ρ s1 = some (.bl y, s1)) : dAndV da db ρ s = some (.bl (x && y), s1) := by
  cases x with
  | true => exact andVT_of h1 (h2 rfl)
  | false => exact andVF_of h1
theorem orVF_of {r : Option (D × Tau)} (h1 : da ρ s = some (.bl false, s1)) (h2 : db ρ s1 = r) : dOrV da db ρ s = r := by
  unfold dOrV
  rw [h1]; exact h2
theorem orVT_of (h1 : da ρ s = some (.bl true, s1)) : dOrV da db ρ s = some (.bl true, s1) := by
  unfold dOrV
  rw [h1]; rfl
theorem orV_val {x y : Bool} (h1 : da ρ s = some (.bl x, s1)) (h2 : x = false → db ρ s1 = some (.bl y, s1)) : dOrV da db ρ s = some (.bl (x || y), s1) := by
  cases x with
  | true => exact orVT_of h1
  | false => exact orVF_of h1 (h2 rfl)
theorem chain_val {f g : D → D → Option D} {dc : Dn} {w : D} {b c : Bool} (h1 : da ρ s = some (x, s1)) (h2 : db ρ s1 = some (y, s1)) (h3 : f x y = some (.bl b)) (h4 : dc ρ s1 = some (w, s1)) (h5 : g y w = some (.bl c)) : dChain f g da db dc ρ s = some (.bl (b && c), s1) := by
  unfold dChain
  rw [h1]
  show Option.bind (db ρ s1) _ = _
  rw [h2]
  show Option.bind (f x y) _ = _
  rw [h3]
  cases b with
  | false => rfl
  | true =>
    show Option.bind (dc ρ s1) _ = _
    rw [h4]
    show Option.map _ (g y w) = _
    rw [h5]; rfl
theorem sl_of {lo hi : Do} {l h : Option Int} {s3 : Tau} (h1 : da ρ s = some (x, s1)) (h2 : lo ρ s1 = some (l, s2)) (h3 : hi ρ s2 = some (h, s3)) (h4 : slD x l h = some z) : dSl slD da lo hi ρ s = some (z, s3) := by
  unfold dSl
  rw [h1]
  show Option.bind (lo ρ s1) _ = _
  rw [h2]
  show Option.bind (hi ρ s2) _ = _
  rw [h3]
  show Option.map _ (slD x l h) = _
  rw [h4]; rfl
theorem some_of {i : Int} (h1 : da ρ s = some (.int i, s1)) : dSome da ρ s = some (some i, s1) := by
  unfold dSome
  rw [h1]; rfl
theorem methS_of {f : Str → List D → Option D} {t : Str} {xs : List D} (h1 : da ρ s = some (.str t, s1)) (h2 : ax ρ s1 = some (xs, s2)) (h3 : f t xs = some z) : dMethS f da ax ρ s = some (z, s2) := by
  unfold dMethS
  rw [h1]
  show Option.bind (ax ρ s1) _ = _
  rw [h2]
  show Option.map _ (f t xs) = _
  rw [h3]; rfl
theorem itS_of {t : Str} (h1 : da ρ s = some (.str t, s1)) : dItS da ρ s = some (chL t, s1) := by
  unfold dItS
  rw [h1]; rfl
theorem itL_of {xs : List D} (h1 : da ρ s = some (.lst xs, s1)) : dItL da ρ s = some (xs, s1) := by
  unfold dItL
  rw [h1]; rfl
theorem itT_of {xs : List D} (h1 : da ρ s = some (x, s1)) (h2 : x.asT = some xs) : dItT da ρ s = some (xs, s1) := by
  unfold dItT
  rw [h1]
  show Option.map _ x.asT = _
  rw [h2]; rfl
theorem enT_of {xs : List D} (h1 : ax ρ s = some ([x], s1)) (h2 : x.asT = some xs) : dEnT ax ρ s = some (enumL 0 xs, s1) := by
  unfold dEnT
  rw [h1]
  show Option.map _ x.asT = _
  rw [h2]; rfl
theorem dp_cons {dr : Dp2} {k : Str} {es : List (Str × D)} {s3 : Tau} (h1 : da ρ s = some (.str k, s1)) (h2 : db ρ s1 = some (x, s2)) (h3 : dr ρ s2 = some (es, s3)) : dpCons da db dr ρ s = some ((k, x) :: es, s3) := by
  unfold dpCons
  rw [h1]
  show Option.bind (db ρ s1) _ = _
  rw [h2]
  show Option.map _ (dr ρ s2) = _
  rw [h3]; rfl
theorem disp_of {dr : Dp2} {es : List (Str × D)} (h1 : dr ρ s = some (es, s1)) (hl : es.length ≤ 15) : dDisp dr ρ s = some (.dS (mergeD [] es), s1) := by
  unfold dDisp
  rw [h1]
  show (if es.length ≤ 15 then _ else _) = _
  rw [if_pos hl]
theorem tup_of {xs : List D} (h1 : ax ρ s = some (xs, s1)) (hl : xs.length ≤ 1000000) : dTup ax ρ s = some (.tup xs, s1) := by
  unfold dTup
  rw [h1]
  show (if xs.length ≤ 1000000 then _ else _) = _
  rw [if_pos hl]
theorem lst_of {xs : List D} (h1 : ax ρ s = some (xs, s1)) (hl : xs.length ≤ 1000000) : dLst ax ρ s = some (.lst xs, s1) := by
  unfold dLst
  rw [h1]
  show (if xs.length ≤ 1000000 then _ else _) = _
  rw [if_pos hl]
theorem star_of {xs ys : List D} (h1 : da ρ s = some (x, s1)) (h2 : x.its = some xs) (h3 : ar ρ s1 = some (ys, s2)) : dStar da ar ρ s = some (xs ++ ys, s2) := by
  unfold dStar
  rw [h1]
  show Option.bind x.its _ = _
  rw [h2]
  show Option.map _ (ar ρ s1) = _
  rw [h3]; rfl
theorem par_of {i j : Nat} (h1 : ax ρ s = some ([x, y], s1)) : dPar i j ax ρ s = some (.nx ((ρ.set i (.im x)).set j (.im y)), s1) := by
  unfold dPar
  rw [h1]; rfl
theorem asg2_of {i j : Nat} (h1 : da ρ s = some (.tup [x, y], s1)) : dAsg da (gdTup 2 (gdCons (gdName i) (gdCons (gdName j) gdNil))) ρ s = some (.nx ((ρ.set i (.im x)).set j (.im y)), s1) := by
  unfold dAsg
  rw [h1]; rfl
theorem ix_of {xs : List D} {i : Nat} (h : x.its = some xs) (h2 : xs[i]? = some z) : ixD x (.int (i : Nat)) = some z := by
  have key : atI xs (i : Int) = xs[i]? := by
    unfold atI ixN
    rw [if_pos (by omega)]
    by_cases z : (i : Int) < xs.length
    · rw [if_pos z]; rfl
    · rw [if_neg z, List.getElem?_eq_none (by omega)]; rfl
  cases x with
  | tup => cases h; exact key.trans h2
  | ktp => cases h; exact key.trans h2
  | lst => cases h; exact key.trans h2
  | _ => cases h
end
/-! comprehensions, loops -/
section
variable {α : Type} {g : Dg} {bt : Dt} {de : Dn} {di : Da} {vs : List Nat} {ρ : List Sl} {s : Tau}
theorem lcGo_map (enc : α → D) (p : α → Bool) (f : α → D) : ∀ (ys : List α), (∀ y ∈ ys, ∃ ρ1, g (enc y) ρ = some ρ1 ∧ bt ρ1 s = some (p y, s) ∧ (p y = true → de ρ1 s = some (f y, s))) →
    lcGo g bt de ρ (ys.map enc) s = some ((ys.filter p).map f, s)
  | [], _ => rfl
  | y :: ys, h => by
    obtain ⟨ρ1, h1, h2, h3⟩ := h y List.mem_cons_self
    have ih := lcGo_map enc p f ys fun z hz => h z (List.mem_cons_of_mem _ hz)
    show ((g (enc y) ρ).bind fun ρ1 => (bt ρ1 s).bind fun b => if b.1 = true then (de ρ1 b.2).bind fun z => (lcGo g bt de ρ (ys.map enc) z.2).map fun r => (z.1 :: r.1, r.2) else lcGo g bt de ρ (ys.map enc) b.2) = _
    rw [h1]
    show ((bt ρ1 s).bind fun b => if b.1 = true then (de ρ1 b.2).bind fun z => (lcGo g bt de ρ (ys.map enc) z.2).map fun r => (z.1 :: r.1, r.2) else lcGo g bt de ρ (ys.map enc) b.2) = _
    rw [h2]
    cases q : p y with
    | false =>
      rw [List.filter_cons_of_neg (by rw [q]; decide)]
      exact ih
    | true =>
      rw [List.filter_cons_of_pos q]
      show ((de ρ1 s).bind fun z => (lcGo g bt de ρ (ys.map enc) z.2).map fun r => (z.1 :: r.1, r.2)) = _
      rw [h3 q]
      show (lcGo g bt de ρ (ys.map enc) s).map (fun r => (f y :: r.1, r.2)) = _
      rw [ih]; rfl
theorem lc_map (enc : α → D) (p : α → Bool) (f : α → D) (ys : List α) (hi : di ρ s = some (ys.map enc, s)) (hl : ys.length ≤ 1000000)
    (h : ∀ y ∈ ys, ∃ ρ1, g (enc y) (wipeD ρ vs) = some ρ1 ∧ bt ρ1 s = some (p y, s) ∧ (p y = true → de ρ1 s = some (f y, s))) :
    dLc di g bt de vs ρ s = some (.lst ((ys.filter p).map f), s) := by
  unfold dLc
  rw [hi]
  show (if (ys.map enc).length ≤ 1000000 then (lcGo g bt de (wipeD ρ vs) (ys.map enc) s).map fun r => (D.lst r.1, r.2) else none) = _
  rw [if_pos (by rw [List.length_map]; exact hl), lcGo_map enc p f ys h]; rfl
theorem lc_all (enc : α → D) (f : α → D) (ys : List α) (hi : di ρ s = some (ys.map enc, s)) (hl : ys.length ≤ 1000000)
    (h : ∀ y ∈ ys, ∃ ρ1, g (enc y) (wipeD ρ vs) = some ρ1 ∧ de ρ1 s = some (f y, s)) :
    dLc di g dYes de vs ρ s = some (.lst (ys.map f), s) := by
  have e := lc_map (bt := dYes) enc (fun _ => true) f ys hi hl fun y hy => by
    obtain ⟨ρ1, h1, h2⟩ := h y hy
    exact ⟨ρ1, h1, rfl, fun _ => h2⟩
  rw [e, List.filter_eq_self.mpr fun _ _ => rfl]
/-- draws in a comprehension -/
theorem lcGo_thread (Inv : Tau → Prop) (R : D → Prop) : ∀ (xs : List D), (∀ x ∈ xs, ∀ s, Inv s → ∃ ρ1 d s', g x ρ = some ρ1 ∧ de ρ1 s = some (d, s') ∧ R d ∧ Inv s') →
    ∀ s, Inv s → ∃ ds s', lcGo g dYes de ρ xs s = some (ds, s') ∧ ds.length = xs.length ∧ (∀ d ∈ ds, R d) ∧ Inv s'
  | [], _, s, hs => ⟨[], s, rfl, rfl, (fun _ h => by cases h), hs⟩
  | x :: xs, h, s, hs => by
    obtain ⟨ρ1, d, s1, h1, h2, h3, h4⟩ := h x List.mem_cons_self s hs
    obtain ⟨ds, s2, h5, h6, h7, h8⟩ := lcGo_thread Inv R xs (fun z hz => h z (List.mem_cons_of_mem _ hz)) s1 h4
    refine ⟨d :: ds, s2, ?_, congrArg Nat.succ h6, ?_, h8⟩
    · show ((g x ρ).bind fun ρ1 => (dYes ρ1 s).bind fun b => if b.1 = true then (de ρ1 b.2).bind fun y => (lcGo g dYes de ρ xs y.2).map fun r => (y.1 :: r.1, r.2) else lcGo g dYes de ρ xs b.2) = _
      rw [h1]
      show ((de ρ1 s).bind fun y => (lcGo g dYes de ρ xs y.2).map fun r => (y.1 :: r.1, r.2)) = _
      rw [h2]
      show (lcGo g dYes de ρ xs s1).map (fun r => (d :: r.1, r.2)) = _
      rw [h5]; rfl
    · intro z hz
      rcases List.mem_cons.mp hz with rfl | hz
      · exact h3
      · exact h7 z hz
theorem lc_thread (Inv : Tau → Prop) (R : D → Prop) {xs : List D} {s1 : Tau} (hi : di ρ s = some (xs, s1)) (hl : xs.length ≤ 1000000) (h1 : Inv s1)
    (h : ∀ x ∈ xs, ∀ s, Inv s → ∃ ρ1 d s', g x (wipeD ρ vs) = some ρ1 ∧ de ρ1 s = some (d, s') ∧ R d ∧ Inv s') :
    ∃ ds s', dLc di g dYes de vs ρ s = some (.lst ds, s') ∧ ds.length = xs.length ∧ (∀ d ∈ ds, R d) ∧ Inv s' := by
  obtain ⟨ds, s', h2, h3, h4, h5⟩ := lcGo_thread Inv R xs h s1 h1
  refine ⟨ds, s', ?_, h3, h4, h5⟩
  unfold dLc
  rw [hi]
  show (if xs.length ≤ 1000000 then (lcGo g dYes de (wipeD ρ vs) xs s1).map fun r => (D.lst r.1, r.2) else none) = _
  rw [if_pos hl, h2]; rfl
/-- a loop that goes on -/
theorem loop_nx {b : Ds} (Inv : Tau → Prop) (J : List Sl → Prop) : ∀ (xs : List D), (∀ x ∈ xs, ∀ ρ s, J ρ → Inv s → ∃ ρ1 ρ2 s', g x ρ = some ρ1 ∧ b ρ1 s = some (.nx ρ2, s') ∧ J ρ2 ∧ Inv s') →
    ∀ ρ s, J ρ → Inv s → ∃ ρ2 s', dLoop g b xs ρ s = some (.nx ρ2, s') ∧ J ρ2 ∧ Inv s'
  | [], _, ρ, s, hj, hs => ⟨ρ, s, rfl, hj, hs⟩
  | x :: xs, h, ρ, s, hj, hs => by
    obtain ⟨ρ1, ρ2, s1, h1, h2, h3, h4⟩ := h x List.mem_cons_self ρ s hj hs
    obtain ⟨ρ3, s2, h5, h6, h7⟩ := loop_nx Inv J xs (fun z hz => h z (List.mem_cons_of_mem _ hz)) ρ2 s1 h3 h4
    refine ⟨ρ3, s2, ?_, h6, h7⟩
    show ((g x ρ).bind fun ρ1 => (b ρ1 s).bind fun p => match p.1 with
      | .nx ρ2 => dLoop g b xs ρ2 p.2
      | .ct ρ2 => dLoop g b xs ρ2 p.2
      | .bk ρ2 => some (.nx ρ2, p.2)
      | .rt d o => some (.rt d o, p.2)) = _
    rw [h1]
    show ((b ρ1 s).bind fun p => match p.1 with
      | .nx ρ2 => dLoop g b xs ρ2 p.2
      | .ct ρ2 => dLoop g b xs ρ2 p.2
      | .bk ρ2 => some (.nx ρ2, p.2)
      | .rt d o => some (.rt d o, p.2)) = _
    rw [h2]
    exact h5
/-- a loop, known by what it has passed -/
theorem loop_pre {α : Type} {b : Ds} (enc : α → D) (J : List α → List Sl → Tau → Prop) (all : List α) (h : ∀ (pre : List α) (y : α) (post : List α), all = pre ++ y :: post → ∀ ρ s, J pre ρ s → ∃ ρ1 ρ2 s', g (enc y) ρ = some ρ1 ∧ b ρ1 s = some (.nx ρ2, s') ∧ J (pre ++ [y]) ρ2 s') :
    ∀ (ys pre : List α), all = pre ++ ys → ∀ ρ s, J pre ρ s → ∃ ρ2 s', dLoop g b (ys.map enc) ρ s = some (.nx ρ2, s') ∧ J all ρ2 s'
  | [], pre, e, ρ, s, hj => ⟨ρ, s, rfl, by rw [e, List.append_nil]; exact hj⟩
  | y :: ys, pre, e, ρ, s, hj => by
    obtain ⟨ρ1, ρ2, s1, h1, h2, h3⟩ := h pre y ys e ρ s hj
    obtain ⟨ρ3, s2, h5, h6⟩ := loop_pre enc J all h ys (pre ++ [y]) (by rw [e, List.append_assoc]; rfl) ρ2 s1 h3
    refine ⟨ρ3, s2, ?_, h6⟩
    show ((g (enc y) ρ).bind fun ρ1 => (b ρ1 s).bind fun p => match p.1 with
      | .nx ρ2 => dLoop g b (ys.map enc) ρ2 p.2
      | .ct ρ2 => dLoop g b (ys.map enc) ρ2 p.2
      | .bk ρ2 => some (.nx ρ2, p.2)
      | .rt d o => some (.rt d o, p.2)) = _
    rw [h1]
    show ((b ρ1 s).bind fun p => match p.1 with
      | .nx ρ2 => dLoop g b (ys.map enc) ρ2 p.2
      | .ct ρ2 => dLoop g b (ys.map enc) ρ2 p.2
      | .bk ρ2 => some (.nx ρ2, p.2)
      | .rt d o => some (.rt d o, p.2)) = _
    rw [h2]
    exact h5
theorem for_pre {α : Type} {it : Da} {b : Ds} {s1 : Tau} (enc : α → D) (J : List α → List Sl → Tau → Prop) (all : List α) (hi : it ρ s = some (all.map enc, s1)) (hj : J [] ρ s1)
    (h : ∀ (pre : List α) (y : α) (post : List α), all = pre ++ y :: post → ∀ ρ s, J pre ρ s → ∃ ρ1 ρ2 s', g (enc y) ρ = some ρ1 ∧ b ρ1 s = some (.nx ρ2, s') ∧ J (pre ++ [y]) ρ2 s') : ∃ ρ2 s', dFor it g b ρ s = some (.nx ρ2, s') ∧ J all ρ2 s' := by
  obtain ⟨ρ2, s', h1, h2⟩ := loop_pre enc J all h all [] rfl ρ s1 hj
  refine ⟨ρ2, s', ?_, h2⟩
  unfold dFor
  rw [hi]; exact h1
theorem for_nx {it : Da} {b : Ds} {xs : List D} {s1 : Tau} (Inv : Tau → Prop) (J : List Sl → Prop) (hi : it ρ s = some (xs, s1)) (hj : J ρ) (hs : Inv s1)
    (h : ∀ x ∈ xs, ∀ ρ s, J ρ → Inv s → ∃ ρ1 ρ2 s', g x ρ = some ρ1 ∧ b ρ1 s = some (.nx ρ2, s') ∧ J ρ2 ∧ Inv s') : ∃ ρ2 s', dFor it g b ρ s = some (.nx ρ2, s') ∧ J ρ2 ∧ Inv s' := by
  obtain ⟨ρ2, s', h1, h2, h3⟩ := loop_nx Inv J xs h ρ s1 hj hs
  refine ⟨ρ2, s', ?_, h2, h3⟩
  unfold dFor
  rw [hi]; exact h1
end
theorem rngL_zero (n : Nat) : rngL 0 n = (List.range n).map fun i => D.int (i : Nat) := by
  unfold rngL
  refine List.map_congr_left fun i _ => ?_
  rw [Int.zero_add]
theorem rng1_of {ax : Da} {ρ : List Sl} {s s1 : Tau} {n : Nat} (h : ax ρ s = some ([.int (n : Nat)], s1)) (hn : n ≤ 1000000) : dRng1 ax ρ s = some ((List.range n).map (fun i : Nat => D.int i), s1) := by
  unfold dRng1
  rw [h]
  show (if decide (-1000000 ≤ (n : Int) ∧ (n : Int) ≤ 1000000) = true then some (rngL 0 (n : Int).toNat, s1) else none) = _
  rw [if_pos (decide_eq_true (by omega)), Int.toNat_natCast, rngL_zero]
theorem rng2_of {ax : Da} {ρ : List Sl} {s s1 : Tau} {m n : Nat} (h : ax ρ s = some ([.int (m : Nat), .int (n : Nat)], s1)) (hm : m ≤ 1000000) (hn : n ≤ 1000000) : dRng2 ax ρ s = some ((List.range (n - m)).map (fun i : Nat => D.int (m + i : Nat)), s1) := by
  unfold dRng2
  rw [h]
  show (if decide (-1000000 ≤ (m : Int) ∧ (m : Int) ≤ 1000000 ∧ -1000000 ≤ (n : Int) ∧ (n : Int) ≤ 1000000) = true then some (rngL m ((n : Int) - m).toNat, s1) else none) = _
  rw [if_pos (decide_eq_true (by omega)), show ((n : Int) - m).toNat = n - m by omega]
  rfl
theorem enumL_zip (enc : α → D) : ∀ (bs : List α) (k : Nat), enumL k (bs.map enc) = (bs.zipIdx k).map fun z => D.ktp [.int (z.2 : Nat), enc z.1]
  | [], _ => rfl
  | b :: bs, k => by
    show D.ktp [.int (k : Nat), enc b] :: enumL (k + 1) (bs.map enc) = _
    rw [enumL_zip enc bs (k + 1)]; rfl
/-! equal data: alike -/
theorem convL_map {α : Type} (enc : α → D) (cv : α → PyData) (h : ∀ x, (enc x).conv = some (cv x)) : ∀ xs : List α, convL (xs.map enc) = some (xs.map cv)
  | [] => rfl
  | x :: xs => by
    show ((enc x).conv.bind fun y => (convL (xs.map enc)).map fun ys => y :: ys) = _
    rw [h x, convL_map enc cv h xs]; rfl
theorem convL_len : ∀ {xs : List D} {ps : List PyData}, convL xs = some ps → xs.length = ps.length
  | [], _, h => by cases h; rfl
  | x :: xs, ps, h => by
    obtain ⟨p, h1, h⟩ := bind_some_of h
    obtain ⟨qs, h2, rfl⟩ := map_some_of h
    exact congrArg Nat.succ (convL_len h2)
theorem convL_get : ∀ {xs : List D} {ps : List PyData} {i : Nat} {p : PyData}, convL xs = some ps → ps[i]? = some p → ∃ x, xs[i]? = some x ∧ x.conv = some p
  | [], _, i, p, h, e => by cases h; cases e
  | x :: xs, ps, i, p, h, e => by
    obtain ⟨q, h1, h⟩ := bind_some_of h
    obtain ⟨qs, h2, rfl⟩ := map_some_of h
    cases i with
    | zero => cases e; exact ⟨x, rfl, h1⟩
    | succ i => exact convL_get (i := i) h2 e
theorem depthAll_get : ∀ {ps : List PyData} {i : Nat} {p : PyData}, ps[i]? = some p → p.depth ≤ PyData.depthAll ps
  | [], i, p, e => by cases e
  | q :: ps, i, p, e => by
    show p.depth ≤ max q.depth (PyData.depthAll ps)
    cases i with
    | zero => cases e; exact Nat.le_max_left _ _
    | succ i => exact Nat.le_trans (depthAll_get (i := i) e) (Nat.le_max_right _ _)
theorem canLay_get : ∀ {ps : List PyData} {i : Nat} {p : PyData}, PyData.canLayAll0 ps = true → ps[i]? = some p → p.canLay0 = true
  | [], i, p, _, e => by cases e
  | q :: ps, i, p, h, e => by
    obtain ⟨h1, h2⟩ := Bool.and_eq_true_iff.mp (show (q.canLay0 && PyData.canLayAll0 ps) = true from h)
    cases i with
    | zero => cases e; exact h1
    | succ i => exact canLay_get (i := i) h2 e
end Dl
end
section
set_option Elab.async false
set_option linter.all false
set_option maxRecDepth 100000
set_option maxHeartbeats 4000000
namespace Dl
open PySem L2 PyProof.Rows
/-! rows of voices, texts of signs -/
def vs (b : Bool) : Str := bif b then "allow" else "deny"
def cn (b : Bool) : Nat := bif b then 43 else 45
def sg (b : Bool) : Str := ⟨#[cn b]⟩
def vD (b : Bool) : D := .str (vs b)
def gD (b : Bool) : D := .str (sg b)
def tx (bs : List Bool) : Str := ⟨(bs.map cn).toArray⟩
def row (bs : List Bool) : D := .tup (bs.map vD)
theorem cn_inj : ∀ a b : Bool, (cn a = cn b) ↔ a = b := by decide
theorem vs_ok : ∀ b : Bool, PyData.strOk (vs b) = true := by decide +kernel
theorem sg_ok : ∀ b : Bool, PyData.strOk (sg b) = true := by decide +kernel
theorem vs_eq : ∀ a b : Bool, (vs a == vs b) = (a == b) := by decide
theorem sg_eq : ∀ a b : Bool, (sg a == sg b) = (a == b) := by decide
theorem tx_len (bs : List Bool) : (tx bs).length = bs.length := by
  show (bs.map cn).toArray.size = _
  rw [List.size_toArray, List.length_map]
theorem tx_list (bs : List Bool) : (tx bs).cps.toList = bs.map cn := rfl
theorem tx_one (b : Bool) : tx [b] = sg b := rfl
theorem tx_app (a b : List Bool) : tx a ++ tx b = tx (a ++ b) := by
  show (⟨(a.map cn).toArray ++ (b.map cn).toArray⟩ : Str) = ⟨((a ++ b).map cn).toArray⟩
  rw [List.map_append, List.append_toArray]
theorem tx_ch (bs : List Bool) : chL (tx bs) = bs.map gD := by
  show ((bs.map cn).map fun k => D.str ⟨#[k]⟩) = _
  rw [List.map_map]; rfl
theorem tx_cut (bs : List Bool) (lo hi : Option Int) : cutS (tx bs) lo hi = tx (cutL bs lo hi) := by
  unfold cutS cutL
  rw [tx_len, tx_list]
  show (⟨(((bs.map cn).drop _).take _).toArray⟩ : Str) = ⟨(((bs.drop _).take _).map cn).toArray⟩
  rw [List.map_take, List.map_drop]
theorem row_cut (bs : List Bool) (lo hi : Option Int) : cutL (bs.map vD) lo hi = (cutL bs lo hi).map vD := by
  unfold cutL
  rw [List.length_map, List.map_take, List.map_drop]
theorem cut_to {α : Type} (xs : List α) (i : Nat) : cutL xs none (some (i : Int)) = xs.take i := by
  unfold cutL
  rw [HT.sIx_none, HT.sIx_nat, List.drop_zero, Nat.sub_zero]
  by_cases h : i ≤ xs.length
  · rw [Nat.min_eq_left h]
  · rw [Nat.min_eq_right (by omega), List.take_of_length_le (Nat.le_refl _), List.take_of_length_le (by omega)]
theorem cut_from {α : Type} (xs : List α) (i : Nat) : cutL xs (some (i : Int)) none = xs.drop i := by
  unfold cutL
  rw [HT.sIx_none, HT.sIx_nat]
  by_cases h : i ≤ xs.length
  · rw [Nat.min_eq_left h]
    exact List.take_of_length_le (by rw [List.length_drop]; exact Nat.le_refl _)
  · rw [Nat.min_eq_right (by omega), Nat.sub_self, List.drop_eq_nil_of_le (Nat.le_refl _), List.drop_eq_nil_of_le (by omega)]; rfl
theorem ix_tx {bs : List Bool} (hl : bs.length ≤ 1000000) {i : Int} {b : Bool} (h : atI bs i = some b) : ixD (.str (tx bs)) (.int i) = some (gD b) := by
  show (if (tx bs).length ≤ 1000000 then (atI (tx bs).cps.toList i).map fun c => D.str ⟨#[c]⟩ else none) = _
  rw [if_pos (by rw [tx_len]; exact hl), tx_list, atI_map, h]; rfl
theorem ix_row {bs : List Bool} {i : Int} {b : Bool} (h : atI bs i = some b) : ixD (row bs) (.int i) = some (vD b) := by
  show ((some (bs.map vD)).bind fun xs => atI xs i) = _
  show atI (bs.map vD) i = _
  rw [atI_map, h]; rfl
theorem at_nat {α : Type} (xs : List α) (i : Nat) : atI xs (i : Int) = xs[i]? := by
  unfold atI ixN
  rw [if_pos (by omega)]
  by_cases z : (i : Int) < xs.length
  · rw [if_pos z]; rfl
  · rw [if_neg z, List.getElem?_eq_none (by omega)]; rfl
theorem at_last {α : Type} (xs : List α) (h : xs ≠ []) : atI xs (-1) = xs.getLast? := by
  have hp : 0 < xs.length := List.length_pos_iff.mpr h
  unfold atI ixN
  rw [if_neg (by decide), if_pos (by omega), show (-1 + (xs.length : Int)).toNat = xs.length - 1 by omega, List.getLast?_eq_getElem?]; rfl
theorem len_tx {bs : List Bool} (hl : bs.length ≤ 1000000) : lenD [.str (tx bs)] = some (.int bs.length) := by
  show (if (tx bs).length ≤ 1000000 then some (D.int (tx bs).length) else none) = _
  rw [if_pos (by rw [tx_len]; exact hl), tx_len]
theorem len_row (bs : List Bool) : lenD [row bs] = some (.int bs.length) := by
  show some (D.int (bs.map vD).length) = _
  rw [List.length_map]
theorem sl_tx {bs : List Bool} (hl : bs.length ≤ 1000000) (lo hi : Option Int) : slD (.str (tx bs)) lo hi = some (.str (tx (cutL bs lo hi))) := by
  show (if (tx bs).length ≤ 1000000 then some (D.str (cutS (tx bs) lo hi)) else none) = _
  rw [if_pos (by rw [tx_len]; exact hl), tx_cut]
theorem sl_row (bs : List Bool) (lo hi : Option Int) : slD (row bs) lo hi = some (.ktp ((cutL bs lo hi).map vD)) := by
  show some (D.ktp (cutL (bs.map vD) lo hi)) = _
  rw [row_cut]
theorem add_tx {a b : List Bool} (hl : a.length + b.length ≤ 1000000) : addD (.str (tx a)) (.str (tx b)) = some (.str (tx (a ++ b))) := by
  show (if (tx a).length + (tx b).length ≤ 1000000 then some (D.str (tx a ++ tx b)) else none) = _
  rw [if_pos (by rw [tx_len, tx_len]; exact hl), tx_app]
theorem cnt_tx (c : Bool) : ∀ bs : List Bool, cnt (cn c) (bs.map cn) = (bs.count c : Nat)
  | [] => rfl
  | b :: bs => by
    rw [List.map_cons, cnt_cons, cnt_tx c bs, List.count_cons]
    cases b <;> cases c <;> simp [cn] <;> omega
theorem count_tx (bs : List Bool) (c : Bool) : countSD (tx bs) [.str (sg c)] = some (.int (bs.count c : Nat)) := by
  show some (D.int (Txt.count (tx bs) ⟨#[cn c]⟩)) = _
  rw [count_cnt, tx_list, cnt_tx]
theorem strs_map {α : Type} (f : α → Str) : ∀ xs : List α, strsOf (xs.map fun x => D.str (f x)) = some (xs.map f)
  | [] => rfl
  | x :: xs => by
    show (strsOf (xs.map fun x => D.str (f x))).map (fun bs => f x :: bs) = _
    rw [strs_map f xs]; rfl
theorem vs_inj : ∀ a b : Bool, vs a = vs b → a = b := by decide
theorem count_map_inj {α β : Type} [BEq α] [LawfulBEq α] [BEq β] [LawfulBEq β] {f : α → β} (h : ∀ a b, f a = f b → a = b) (c : α) : ∀ xs : List α, (xs.map f).count (f c) = xs.count c
  | [] => rfl
  | x :: xs => by
    rw [List.map_cons, List.count_cons, List.count_cons, count_map_inj h c xs]
    by_cases e : x = c
    · subst e; simp
    · rw [beq_eq_false_iff_ne.mpr e, beq_eq_false_iff_ne.mpr fun z => e (h _ _ z)]
theorem count_row (bs : List Bool) (c : Bool) : countD (row bs) (vD c) = some (.int (bs.count c : Nat)) := by
  show (strsOf (bs.map fun b => D.str (vs b))).map (fun ys => D.int ((ys.count (vs c) : Nat) : Int)) = _
  rw [strs_map]
  show some (D.int (((bs.map vs).count (vs c) : Nat) : Int)) = _
  rw [count_map_inj vs_inj]
theorem depth_strs (xs : List Str) : PyData.depthAll (xs.map PyData.str) = 0 := by
  induction xs with
  | nil => rfl
  | cons x xs ih =>
    show max 0 (PyData.depthAll (xs.map PyData.str)) = 0
    rw [ih]; rfl
theorem lay_strs : ∀ {xs : List Str}, (∀ x ∈ xs, PyData.strOk x = true) → PyData.canLayAll0 (xs.map PyData.str) = true
  | [], _ => rfl
  | x :: xs, h => by
    show (PyData.strOk x && PyData.canLayAll0 (xs.map PyData.str)) = true
    rw [h x List.mem_cons_self, lay_strs fun z hz => h z (List.mem_cons_of_mem _ hz)]; rfl
theorem shaped_strsL {xs : List Str} (h : ∀ x ∈ xs, PyData.strOk x = true) : SeqAt.shaped (.list (xs.map PyData.str)) = true := by
  unfold SeqAt.shaped
  rw [Bool.and_eq_true]
  refine ⟨lay_strs h, decide_eq_true ?_⟩
  show PyData.depthAll (xs.map PyData.str) + 1 ≤ 64
  rw [depth_strs]; decide
theorem shaped_strsT {xs : List Str} (h : ∀ x ∈ xs, PyData.strOk x = true) : SeqAt.shaped (.tuple (xs.map PyData.str)) = true := by
  unfold SeqAt.shaped
  rw [Bool.and_eq_true]
  refine ⟨lay_strs h, decide_eq_true ?_⟩
  show PyData.depthAll (xs.map PyData.str) + 1 ≤ 64
  rw [depth_strs]; decide
theorem depth_ints : ∀ xs : List Int, PyData.depthAll (xs.map PyData.int) = 0
  | [] => rfl
  | x :: xs => by
    show max 0 (PyData.depthAll (xs.map PyData.int)) = 0
    rw [depth_ints xs]; rfl
theorem lay_ints : ∀ xs : List Int, PyData.canLayAll0 (xs.map PyData.int) = true
  | [] => rfl
  | x :: xs => by
    show (true && PyData.canLayAll0 (xs.map PyData.int)) = true
    rw [lay_ints xs]; rfl
theorem shaped_intsL (xs : List Int) : SeqAt.shaped (.list (xs.map PyData.int)) = true := by
  unfold SeqAt.shaped
  rw [Bool.and_eq_true]
  refine ⟨lay_ints xs, decide_eq_true ?_⟩
  show PyData.depthAll (xs.map PyData.int) + 1 ≤ 64
  rw [depth_ints]; decide
theorem eq_ints_nil (xs : List Int) : eqD (.lst (xs.map D.int)) (.lst []) = some (.bl (decide (xs.length = 0))) := by
  unfold eqD
  rw [eqB_of (x := .list (xs.map PyData.int)) (y := .list []) (by show (convL (xs.map D.int)).map PyData.list = _; rw [convL_map D.int PyData.int fun _ => rfl]; rfl) rfl (shaped_intsL xs) rfl]
  cases xs <;> rfl
theorem vs_all (bs : List Bool) : ∀ x ∈ bs.map vs, PyData.strOk x = true := fun x h => by
  obtain ⟨b, _, rfl⟩ := List.mem_map.mp h
  exact vs_ok b
theorem any_str (y : Str) (xs : List Str) : ((xs.map PyData.str).any fun z => PyData.eqv z (.str y)) = xs.contains y := by
  induction xs with
  | nil => rfl
  | cons x xs ih =>
    rw [List.map_cons, List.any_cons, ih, List.contains_cons]
    show (x == y || xs.contains y) = _
    rw [show (x == y) = (y == x) from BEq.comm]
theorem inB_strs {d : D} {ds : List D} {xs : List Str} {y : Str} (hd : d.its = some ds) (he : ds = xs.map D.str) (hx : ∀ x ∈ xs, PyData.strOk x = true) (hy : PyData.strOk y = true) : inB (.str y) d = some (xs.contains y) := by
  unfold inB
  subst he
  show (d.its.bind fun es => (convL es).bind fun ys => if (SeqAt.shaped (.str y) && SeqAt.shaped (.list ys) && SeqAt.shaped (.tuple ys)) = true then some (ys.any fun z => PyData.eqv z (.str y)) else none) = _
  rw [hd]
  show ((convL (xs.map D.str)).bind fun ys => if (SeqAt.shaped (.str y) && SeqAt.shaped (.list ys) && SeqAt.shaped (.tuple ys)) = true then some (ys.any fun z => PyData.eqv z (.str y)) else none) = _
  rw [convL_map D.str PyData.str fun _ => rfl]
  show (if (SeqAt.shaped (.str y) && SeqAt.shaped (.list (xs.map PyData.str)) && SeqAt.shaped (.tuple (xs.map PyData.str))) = true then some ((xs.map PyData.str).any fun z => PyData.eqv z (.str y)) else none) = _
  rw [if_pos (by rw [shaped_str hy, shaped_strsL hx, shaped_strsT hx]; rfl), any_str]
theorem contains_map_inj {α β : Type} [BEq α] [LawfulBEq α] [BEq β] [LawfulBEq β] {f : α → β} (h : ∀ a b, f a = f b → a = b) (c : α) : ∀ xs : List α, (xs.map f).contains (f c) = xs.contains c
  | [] => rfl
  | x :: xs => by
    rw [List.map_cons, List.contains_cons, List.contains_cons, contains_map_inj h c xs]
    by_cases e : c = x
    · subst e; simp
    · rw [beq_eq_false_iff_ne.mpr e, beq_eq_false_iff_ne.mpr fun z => e (h _ _ z)]
theorem in_row (bs : List Bool) (c : Bool) : inB (vD c) (row bs) = some (bs.contains c) := by
  refine (inB_strs (xs := bs.map vs) rfl (by rw [List.map_map]; rfl) (vs_all bs) (vs_ok c)).trans ?_
  rw [contains_map_inj vs_inj]
theorem eq_v (a b : Bool) : eqD (vD a) (vD b) = some (.bl (a == b)) := (eqD_str (vs_ok a) (vs_ok b)).trans (by rw [vs_eq])
theorem ne_v (a b : Bool) : neD (vD a) (vD b) = some (.bl (!(a == b))) := (neD_str (vs_ok a) (vs_ok b)).trans (by rw [vs_eq])
theorem eq_g (a b : Bool) : eqD (gD a) (gD b) = some (.bl (a == b)) := (eqD_str (sg_ok a) (sg_ok b)).trans (by rw [sg_eq])
theorem ne_g (a b : Bool) : neD (gD a) (gD b) = some (.bl (!(a == b))) := (neD_str (sg_ok a) (sg_ok b)).trans (by rw [sg_eq])
theorem join_go : ∀ (ps : List Str) (acc : Array Nat), ps.foldl (fun acc p => acc ++ (#[] : Array Nat) ++ p.cps) acc = acc ++ (ps.flatMap fun z => z.cps.toList).toArray
  | [], acc => by simp
  | p :: ps, acc => by
    rw [List.foldl_cons, join_go ps, List.flatMap_cons, Array.append_empty, Array.append_assoc]
    congr 1
    rw [← List.append_toArray]
theorem join_nil (ys : List Str) : Txt.join "" ys = ⟨(ys.flatMap fun z => z.cps.toList).toArray⟩ := by
  show (⟨(ys.drop 1).foldl (fun acc p => acc ++ (#[] : Array Nat) ++ p.cps) (ys.headD Str.empty).cps⟩ : Str) = _
  rw [join_go]
  cases ys with
  | nil => rfl
  | cons y ys =>
    show (⟨y.cps ++ (ys.flatMap fun z => z.cps.toList).toArray⟩ : Str) = _
    simp [List.flatMap_cons]
theorem join_g {bs : List Bool} (hl : bs.length ≤ 1000000) : joinSD "" [.lst (bs.map gD)] = some (.str (tx bs)) := by
  show ((strsOf (bs.map fun b => D.str (sg b))).bind fun ys => if (ys.map fun z => z.length).sum + ys.length * Str.length "" ≤ 1000000 then some (D.str (Txt.join "" ys)) else none) = _
  rw [strs_map]
  have e1 : ((bs.map sg).map fun z => z.length).sum = bs.length := by
    clear hl
    induction bs with
    | nil => rfl
    | cons b bs ih =>
      rw [List.map_cons, List.map_cons, List.sum_cons, ih, List.length_cons]
      show 1 + bs.length = _
      omega
  show (if ((bs.map sg).map fun z => z.length).sum + (bs.map sg).length * 0 ≤ 1000000 then some (D.str (Txt.join "" (bs.map sg))) else none) = _
  rw [e1, if_pos (by omega), join_nil]
  have e2 : ((bs.map sg).flatMap fun z => z.cps.toList) = bs.map cn := by
    clear hl e1
    induction bs with
    | nil => rfl
    | cons b bs ih => rw [List.map_cons, List.flatMap_cons, ih]; rfl
  rw [e2]; rfl
/-- one voice turned -/
def fl (bs : List Bool) (i : Nat) : List Bool := bs.set i (!(bs[i]?.getD true))
theorem fl_len (bs : List Bool) (i : Nat) : (fl bs i).length = bs.length := List.length_set
theorem fl_cut {bs : List Bool} {i : Nat} {b : Bool} (h : bs[i]? = some b) : bs.take i ++ ((!b) :: bs.drop (i + 1)) = fl bs i := by
  unfold fl
  rw [h]
  have hi := (List.getElem?_eq_some_iff.mp h).1
  rw [List.set_eq_take_append_cons_drop, if_pos hi]; rfl
end Dl
end
section
set_option Elab.async false
set_option linter.all false
set_option maxRecDepth 100000
set_option maxHeartbeats 4000000
namespace Dl
open PySem L2 PyProof.Rows
/-! where a row changes; the answers in plain Lean -/
/-- the changes after p -/
def jr : Bool → List Bool → List Bool
  | _, [] => []
  | p, b :: r => if b == p then jr b r else b :: jr b r
def hd (bs : List Bool) : Bool := bs.head?.getD true
def ls (bs : List Bool) : Bool := bs.getLast?.getD true
def jn : List Bool → List Bool
  | [] => []
  | b :: r => b :: jr b r
def chN : List Bool → Nat
  | [] => 0
  | b :: r => (jr b r).length
/-- changes come by turns -/
def alt : Bool → Nat → List Bool
  | _, 0 => []
  | p, n + 1 => (!p) :: alt (!p) n
theorem jr_alt : ∀ (r : List Bool) (p : Bool), jr p r = alt p (jr p r).length
  | [], _ => rfl
  | b :: r, p => by
    unfold jr
    by_cases e : b = p
    · subst e
      rw [if_pos (beq_self_eq_true b)]
      exact jr_alt r b
    · rw [if_neg (by simpa using e)]
      have eb : b = !p := by cases b <;> cases p <;> first | rfl | exact absurd rfl e
      rw [List.length_cons]
      show _ = (!p) :: alt (!p) _
      rw [← eb, ← jr_alt r b]
def isl (bs : List Bool) : Bool := (hd bs && decide (chN bs = 0)) || (!hd bs && decide (chN bs = 2))
theorem isl_jn : ∀ bs : List Bool, bs ≠ [] → (jn bs == [true] || jn bs == [false, true, false]) = isl bs
  | [], h => absurd rfl h
  | b :: r, _ => by
    show (b :: jr b r == [true] || b :: jr b r == [false, true, false]) = ((b && decide ((jr b r).length = 0)) || (!b && decide ((jr b r).length = 2)))
    rw [jr_alt r b]
    rw [← jr_alt r b]
    generalize hn : (jr b r).length = n
    have e : jr b r = alt b n := by rw [← hn]; exact jr_alt r b
    rw [e]
    match b, n with
    | true, 0 => rfl
    | false, 0 => rfl
    | true, 1 => rfl
    | false, 1 => rfl
    | true, 2 => rfl
    | false, 2 => rfl
    | true, n + 3 => simp [alt]
    | false, n + 3 => simp [alt]
theorem jn_len : ∀ bs : List Bool, (jn bs).length ≤ bs.length
  | [] => Nat.le_refl _
  | b :: r => by
    have h : ∀ (r : List Bool) (p : Bool), (jr p r).length ≤ r.length := fun r => by
      induction r with
      | nil => intro p; exact Nat.le_refl _
      | cons c r ih =>
        intro p
        unfold jr
        split
        · exact Nat.le_succ_of_le (ih c)
        · exact Nat.succ_le_succ (ih c)
    exact Nat.succ_le_succ (h r b)
/-- by places, over the whole row -/
theorem jr_zip (bs : List Bool) : ∀ (r pre : List Bool) (p : Bool), bs = pre ++ p :: r → ((r.zipIdx (pre.length + 1)).filter fun z => !(z.1 == (bs[z.2 - 1]?.getD true))).map (fun z => z.1) = jr p r
  | [], _, _, _ => rfl
  | b :: r, pre, p, h => by
    have e0 : bs[pre.length]? = some p := by rw [h]; simp
    have ih := jr_zip bs r (pre ++ [p]) b (by rw [h]; simp)
    rw [List.length_append] at ih
    rw [List.zipIdx_cons]
    unfold jr
    have e1 : (bs[pre.length + 1 - 1]?.getD true) = p := by rw [Nat.add_sub_cancel, e0]; rfl
    by_cases e : b = p
    · rw [if_pos (by rw [e]; exact beq_self_eq_true p), List.filter_cons_of_neg (by show ¬(!(b == (bs[pre.length + 1 - 1]?.getD true))) = true; rw [e1, e]; simp)]
      exact ih
    · rw [if_neg (by simpa using e), List.filter_cons_of_pos (by show (!(b == (bs[pre.length + 1 - 1]?.getD true))) = true; rw [e1]; simpa using e), List.map_cons]
      rw [show pre.length + 1 + 1 = pre.length + [p].length + 1 from rfl, ih]
theorem jn_zip : ∀ bs : List Bool, ((bs.zipIdx).filter fun z => decide (z.2 = 0) || !(z.1 == (bs[z.2 - 1]?.getD true))).map (fun z => z.1) = jn bs
  | [] => rfl
  | b :: r => by
    rw [List.zipIdx_cons, List.filter_cons_of_pos rfl, List.map_cons]
    have h := jr_zip (b :: r) r [] b rfl
    show b :: _ = b :: jr b r
    rw [← h]
    congr 2
    refine List.filter_congr fun z hz => ?_
    have := (List.mem_zipIdx hz).1
    rw [show decide (z.2 = 0) = false from decide_eq_false (by omega)]; rfl
theorem chN_ix : ∀ bs : List Bool, ((List.range (bs.length - 1)).filter fun i => !((bs[1 + i]?.getD true) == (bs[i]?.getD true))).length = chN bs
  | [] => rfl
  | b :: r => by
    have h := jr_zip (b :: r) r [] b rfl
    show _ = (jr b r).length
    rw [← h, List.length_map]
    show _ = ((r.zipIdx 1).filter _).length
    have e : (r.zipIdx 1) = (List.range r.length).map fun i => ((b :: r)[1 + i]?.getD true, 1 + i) := by
      apply List.ext_getElem?
      intro i
      rw [List.getElem?_zipIdx, List.getElem?_map]
      by_cases hi : i < r.length
      · rw [List.getElem?_range hi, List.getElem?_eq_getElem hi]
        show some (r[i], 1 + i) = some ((b :: r)[1 + i]?.getD true, 1 + i)
        rw [Nat.add_comm 1 i, List.getElem?_cons_succ, List.getElem?_eq_getElem hi]; rfl
      · rw [List.getElem?_eq_none (by omega), List.getElem?_eq_none (by rw [List.length_range]; omega)]; rfl
    rw [e, List.filter_map, List.length_map]
    show ((List.range r.length).filter _).length = _
    congr 1
    refine List.filter_congr fun i _ => ?_
    show _ = !(((b :: r)[1 + i]?.getD true) == ((b :: r)[1 + i - 1]?.getD true))
    rw [Nat.add_sub_cancel_left]
/-- most -/
def mo (bs : List Bool) (t : Bool) : Bool := if bs.count true = bs.count false then t else decide (bs.count false < bs.count true)
/-- the i-th way's answer -/
def an : Nat → List Bool → Bool
  | 0, bs => bs.contains true
  | 1, _ => true
  | 2, _ => false
  | 3, bs => hd bs && ls bs
  | 4, bs => !bs.contains false
  | 5, bs => hd bs
  | 6, bs => isl bs
  | 7, bs => ls bs
  | 8, bs => mo bs true
  | 9, bs => mo bs false
  | 10, bs => mo bs (hd bs)
  | 11, bs => mo bs (ls bs)
  | _, bs => decide (bs.count false % 2 = 0)
def wys : List Str := ["allow over", "always allow", "always deny", "both ends", "deny over", "first", "island", "last", "most or allow", "most or deny", "most or first", "most or last", "odd"]
def wy (i : Nat) : Str := wys.getD i "odd"
theorem ne_int {c d : Nat} (h : c ≠ d) : neD (.int c) (.int d) = some (.bl true) := by
  rw [neD_int, beq_eq_false_iff_ne.mpr (show (c : Int) ≠ d by omega)]; rfl
theorem ne_int_self (c : Int) : neD (.int c) (.int c) = some (.bl false) := by
  rw [neD_int, beq_self_eq_true]; rfl
theorem eq_int_self (c : Int) : eqD (.int c) (.int c) = some (.bl true) := by
  rw [eqD_int, beq_self_eq_true]
theorem eq_int_ne {c d : Int} (h : c ≠ d) : eqD (.int c) (.int d) = some (.bl false) := by
  rw [eqD_int, beq_eq_false_iff_ne.mpr h]
theorem gt_nat (c d : Nat) : gtD (.int c) (.int d) = some (.bl (decide (d < c))) := by
  show some (D.bl (decide ((d : Int) < c))) = _
  rw [show decide ((d : Int) < c) = decide (d < c) from decide_eq_decide.mpr (by omega)]
theorem mo_ne {bs : List Bool} (h : bs.count true ≠ bs.count false) (t : Bool) : mo bs t = decide (bs.count false < bs.count true) := if_neg h
theorem mo_eq {bs : List Bool} (h : bs.count true = bs.count false) (t : Bool) : mo bs t = t := if_pos h
theorem at_hd {bs : List Bool} (h : bs ≠ []) : atI bs 0 = some (hd bs) := by
  cases bs with
  | nil => exact absurd rfl h
  | cons b r => exact at_nat (b :: r) 0
theorem at_ls {bs : List Bool} (h : bs ≠ []) : atI bs (-1) = some (ls bs) := by
  rw [at_last bs h]
  unfold ls
  rw [List.getLast?_eq_some_getLast h]; rfl
theorem at_ls2 {bs : List Bool} (h : bs ≠ []) : atI bs ((bs.length : Int) - 1) = some (ls bs) := by
  have hp : 0 < bs.length := List.length_pos_iff.mpr h
  rw [show ((bs.length : Int) - 1) = ((bs.length - 1 : Nat) : Int) by omega, at_nat, ← List.getLast?_eq_getElem?]
  unfold ls
  rw [List.getLast?_eq_some_getLast h]; rfl
/-- all rows of a length -/
def rb : Nat → List (List Bool)
  | 0 => [[]]
  | n + 1 => (rb n).flatMap fun t => [t ++ [true], t ++ [false]]
theorem mem_rb : ∀ (n : Nat) (bs : List Bool), bs ∈ rb n ↔ bs.length = n
  | 0, bs => by
    show bs ∈ [[]] ↔ _
    rw [List.mem_singleton, List.length_eq_zero_iff]
  | n + 1, bs => by
    show bs ∈ (rb n).flatMap _ ↔ _
    rw [List.mem_flatMap]
    constructor
    · rintro ⟨t, ht, h⟩
      have hl := (mem_rb n t).mp ht
      rcases List.mem_cons.mp h with rfl | h
      · rw [List.length_append, hl]; rfl
      · rw [List.mem_singleton] at h
        rw [h, List.length_append, hl]; rfl
    · intro hl
      have h0 : bs ≠ [] := fun e => by rw [e] at hl; cases hl
      refine ⟨bs.dropLast, (mem_rb n _).mpr (by rw [List.length_dropLast, hl]; rfl), ?_⟩
      have e := List.dropLast_concat_getLast h0
      cases q : bs.getLast h0 with
      | true => rw [q] at e; rw [e]; exact List.mem_cons_self
      | false => rw [q] at e; rw [e]; exact List.mem_cons_of_mem _ List.mem_cons_self
theorem rb_len : ∀ n : Nat, (rb n).length = 2 ^ n
  | 0 => rfl
  | n + 1 => by
    have key : ∀ l : List (List Bool), (l.flatMap fun t => [t ++ [true], t ++ [false]]).length = 2 * l.length := fun l => by
      induction l with
      | nil => rfl
      | cons x l ih =>
        rw [List.flatMap_cons, List.length_append, ih, List.length_cons (as := l)]
        show 2 + 2 * l.length = 2 * (l.length + 1)
        omega
    show ((rb n).flatMap _).length = _
    rw [key, rb_len n, Nat.pow_succ]; omega
theorem cn_list_inj : ∀ a b : List Bool, a.map cn = b.map cn → a = b
  | [], [], _ => rfl
  | [], _ :: _, h => by cases h
  | _ :: _, [], h => by cases h
  | x :: a, y :: b, h => by
    rw [List.map_cons, List.map_cons] at h
    injection h with h1 h2
    rw [(cn_inj x y).mp h1, cn_list_inj a b h2]
theorem tx_inj {a b : List Bool} (h : tx a = tx b) : a = b := by
  have e : (tx a).cps.toList = (tx b).cps.toList := by rw [h]
  exact cn_list_inj a b e
theorem look_map {α : Type} {key : α → Str} {val : α → D} (hk : ∀ x y, key x = key y → x = y) {y : α} : ∀ {ys : List α}, y ∈ ys → lookD (ys.map fun z => (key z, val z)) (key y) = some (val y)
  | x :: ys, h => by
    unfold lookD
    rw [List.map_cons, List.find?_cons]
    by_cases e : key x = key y
    · rw [decide_eq_true e]
      rw [hk x y e]; rfl
    · rw [decide_eq_false e]
      rcases List.mem_cons.mp h with rfl | h
      · exact absurd rfl e
      · exact look_map hk h
theorem put_new {es : List (Str × D)} {k : Str} {v : D} (h : ∀ z ∈ es, z.1 ≠ k) : putD es k v = es ++ [(k, v)] := by
  unfold putD
  rw [if_neg]
  intro q
  obtain ⟨z, hz, e⟩ := List.any_eq_true.mp q
  exact h z hz (of_decide_eq_true e)
theorem rb_nodup : ∀ n : Nat, n < 9 → (rb n).Nodup := by decide +kernel
end Dl
end
section
set_option Elab.async false
set_option linter.all false
set_option maxRecDepth 100000
set_option maxHeartbeats 4000000
namespace Dl
open PySem L2 PyProof.Rows
/-! owned things, plain -/
section
variable {ρ : List Sl} {s s1 s2 : Tau} {x y z : D} {da db : Dn} {ax ar : Da} {b : Bool} {bt : Dt}
theorem own_of {i : Nat} (h1 : da ρ s = some (x, s1)) : dOwn da i ρ s = some (.nx (ρ.set i (.ow x)), s1) := by
  unfold dOwn
  rw [h1]; rfl
theorem frz_of {i : Nat} {b : Ds} {r : Option (Rs × Tau)} (h1 : ρ[i]? = some (.ow x)) (h2 : b (ρ.set i (.im x)) s = r) : dFrz i b ρ s = r := by
  unfold dFrz
  rw [h1]; exact h2
theorem sN_ {a b : Ds} {ρ1 : List Sl} {r : Option (Rs × Tau)} (h : a ρ s = some (.nx ρ1, s1)) (h2 : b ρ1 s1 = r) : dSeq a b ρ s = r := seq_nx h h2
end
end Dl
end
section
set_option Elab.async false
set_option linter.all false
set_option maxRecDepth 100000
set_option maxHeartbeats 4000000
namespace Dl
open PySem L2 PyProof.Rows
/-! tables of answers, told -/
def tD (bs : List Bool) : D := .str (tx bs)
/-- a told dict of signs: T what it tells, K of which rows -/
def TabS (es : List (Str × D)) (T K : List Bool → Bool) : Prop := ∀ bs, lookD es (tx bs) = if K bs = true then some (gD (T bs)) else none
def md (bs : List Bool) : Bool := bs.contains true && bs.contains false
def sh (bs : List Bool) (i : Nat) : Bool := bs[i]?.getD true
def xc (bs : List Bool) (i : Nat) : List Bool := bs.take i ++ (sh bs (i + 1) :: sh bs i :: bs.drop (i + 2))
def ins (bs : List Bool) (i : Nat) (b : Bool) : List Bool := bs.take i ++ b :: bs.drop i
def gt (T K : List Bool → Bool) (k : List Bool) (h : Bool) : Bool := if K k = true then T k else h
/-- the p-th promise is broken at a row -/
def torn (T K : List Bool → Bool) : Nat → List Bool → Bool
  | 0, bs => !md bs && !(T bs == hd bs)
  | 1, bs => T (bs.map not) == T bs
  | 2, bs => T bs && (List.range bs.length).any fun i => !sh bs i && !T (fl bs i)
  | 6, bs => !decide (bs.count true = bs.count false) && !(T bs == decide (bs.count false < bs.count true))
  | 7, bs => (List.range (bs.length - 1)).any fun i => !(T (xc bs i) == T bs)
  | 8, bs => (List.range (bs.length - 1)).any fun i => !(T [T (bs.take (1 + i)), T (bs.drop (1 + i))] == T bs)
  | 9, bs => (List.range bs.length).any fun i => !(gt T K (ins bs i (sh bs i)) (T bs) == T bs)
  | _, bs => (List.range (bs.length + 1)).any fun i => !(gt T K (ins bs i (T bs)) (T bs) == T bs)
def prs : List Str := ["agreed", "even", "growing", "heard", "kept", "mixed", "most", "order", "parts", "repeat"]
def pr (i : Nat) : Str := prs.getD i "repeat"
/-- what must be told for the p-th promise at a row -/
def Dmn (T K : List Bool → Bool) : Nat → List Bool → Prop
  | 1, bs => K (bs.map not) = true
  | 2, bs => ∀ i, i < bs.length → sh bs i = false → K (fl bs i) = true
  | 7, bs => ∀ i, i + 1 < bs.length → K (xc bs i) = true
  | 8, bs => ∀ i, i + 1 < bs.length → K (bs.take (1 + i)) = true ∧ K (bs.drop (1 + i)) = true ∧ K [T (bs.take (1 + i)), T (bs.drop (1 + i))] = true
  | _, _ => True
theorem strOk_tx (bs : List Bool) : PyData.strOk (tx bs) = true := by
  show ((bs.map cn).toArray.all fun c => decide (c < 0x110000)) = true
  rw [List.all_toArray, List.all_map]
  exact List.all_eq_true.mpr fun b _ => by cases b <;> decide
theorem eq_tD (a b : List Bool) : eqD (tD a) (tD b) = some (.bl (a == b)) := by
  refine (eqD_str (strOk_tx a) (strOk_tx b)).trans ?_
  by_cases e : a = b
  · subst e; rw [beq_self_eq_true, beq_self_eq_true]
  · rw [beq_eq_false_iff_ne.mpr e, beq_eq_false_iff_ne.mpr fun z => e (tx_inj z)]
theorem ne_ints_nil (xs : List Int) : neD (.lst (xs.map D.int)) (.lst []) = some (.bl (!decide (xs.length = 0))) := by
  unfold neD
  rw [eqB_of (x := .list (xs.map PyData.int)) (y := .list []) (by show (convL (xs.map D.int)).map PyData.list = _; rw [convL_map D.int PyData.int fun _ => rfl]; rfl) rfl (shaped_intsL xs) rfl]
  cases xs <;> rfl
theorem any_len {α : Type} (p : α → Bool) : ∀ xs : List α, (!decide ((xs.filter p).length = 0)) = xs.any p
  | [] => rfl
  | x :: xs => by
    rw [List.any_cons, List.filter_cons]
    cases q : p x with
    | true => simp
    | false => rw [if_neg (by simp)]; exact any_len p xs
/-- places kept, told as a list that is not empty -/
theorem ne_kept {α : Type} (f : α → Int) (p : α → Bool) (xs : List α) : neD (.lst ((xs.filter p).map fun x => D.int (f x))) (.lst []) = some (.bl (xs.any p)) := by
  have := ne_ints_nil ((xs.filter p).map f)
  rw [List.map_map, List.length_map, any_len] at this
  exact this
theorem mul_sg (b : Bool) (n : Nat) : Txt.mul (sg b) (n : Int) = tx (List.replicate n b) := by
  unfold Txt.mul
  by_cases h : n = 0
  · subst h; rfl
  · rw [if_neg (by omega)]
    by_cases h1 : n = 1
    · subst h1; rfl
    · have e : ((n : Int) == 1 || (sg b).length == 0) = false := by
        rw [beq_eq_false_iff_ne.mpr (show (n : Int) ≠ 1 by omega)]; rfl
      rw [e, if_neg Bool.false_ne_true, Int.toNat_natCast]
      have key : ∀ (k : Nat) (acc : List Bool), (List.replicate k (sg b).cps).foldl (· ++ ·) (tx acc).cps = (tx (acc ++ List.replicate k b)).cps := fun k => by
        induction k with
        | zero =>
          intro acc
          show (tx acc).cps = (tx (acc ++ [])).cps
          rw [List.append_nil]
        | succ k ih =>
          intro acc
          rw [List.replicate_succ, List.foldl_cons, List.replicate_succ]
          have : (tx acc).cps ++ (sg b).cps = (tx (acc ++ [b])).cps := congrArg Str.cps (tx_app acc [b])
          rw [this, ih, List.append_assoc]; rfl
      have := key n []
      rw [List.nil_append] at this
      exact congrArg Str.mk this
theorem md_rep {bs : List Bool} (h0 : bs ≠ []) : (bs == List.replicate bs.length (hd bs)) = !md bs := by
  cases bs with
  | nil => exact absurd rfl h0
  | cons b r =>
    have key : ∀ r : List Bool, (r == List.replicate r.length b) = !r.contains (!b) := fun r => by
      induction r with
      | nil => rfl
      | cons c r ih =>
        rw [List.length_cons, List.replicate_succ, List.cons_beq_cons, ih, List.contains_cons]
        cases b <;> cases c <;> rfl
    show ((b :: r) == List.replicate (r.length + 1) b) = _
    rw [List.replicate_succ, List.cons_beq_cons, key r]
    unfold md
    rw [List.contains_cons, List.contains_cons]
    cases b <;> simp
theorem asg3_of {ρ : List Sl} {s s1 : Tau} {da : Dn} {x y z : D} {i j k : Nat} (h1 : da ρ s = some (.tup [x, y, z], s1)) : dAsg da (gdTup 3 (gdCons (gdName i) (gdCons (gdName j) (gdCons (gdName k) gdNil)))) ρ s = some (.nx (((ρ.set i (.im x)).set j (.im y)).set k (.im z)), s1) := by
  unfold dAsg
  rw [h1]; rfl
theorem lstRg_of {da : Dn} {ρ : List Sl} {s s1 : Tau} {n : Nat} (h : da ρ s = some (.int (n : Nat), s1)) (hn : n ≤ 1000000) : dLstRg1 da ρ s = some (.lst ((List.range n).map fun i : Nat => D.int i), s1) := by
  unfold dLstRg1
  rw [h]
  show (if decide (0 ≤ (n : Int) ∧ (n : Int) ≤ 1000000) = true then some (D.lst (rngL 0 (n : Int).toNat), s1) else none) = _
  rw [if_pos (decide_eq_true (by omega)), Int.toNat_natCast, rngL_zero]
theorem rest_rng (n : Nat) : ((List.range n).map fun i : Nat => D.int i).drop 1 = (List.range (n - 1)).map fun i : Nat => D.int (1 + i : Nat) := by
  cases n with
  | zero => rfl
  | succ n =>
    rw [List.range_succ_eq_map, List.map_cons, List.map_map, List.drop_one, List.tail_cons, Nat.add_sub_cancel]
    refine List.map_congr_left fun i _ => ?_
    show D.int ((i + 1 : Nat) : Int) = _
    rw [Nat.add_comm]
theorem sl_rest (xs : List D) : slD (.lst xs) (some 1) none = some (.lst (xs.drop 1)) := by
  show some (D.lst (cutL xs (some ((1 : Nat) : Int)) none)) = _
  rw [cut_from]
theorem snoc_rng (n : Nat) (hn : n ≤ 1000) : addD (.lst ((List.range n).map fun i : Nat => D.int i)) (.lst [.int (n : Nat)]) = some (.lst ((List.range (n + 1)).map fun i : Nat => D.int i)) := by
  show (if ((List.range n).map fun i : Nat => D.int i).length + 1 ≤ 1000000 then some (D.lst (((List.range n).map fun i : Nat => D.int i) ++ [D.int (n : Nat)])) else none) = _
  rw [if_pos (by rw [List.length_map, List.length_range]; omega), List.range_succ, List.map_append]; rfl
theorem get_tab {es : List (Str × D)} {T K : List Bool → Bool} (h : TabS es T K) {bs : List Bool} (hk : K bs = true) : dgetD (.dS es) (tD bs) = some (gD (T bs)) := (h bs).trans (if_pos hk)
theorem get2_tab {es : List (Str × D)} {T K : List Bool → Bool} (h : TabS es T K) (bs : List Bool) (b : Bool) : dget2D (.dS es) (tD bs) (gD b) = some (gD (gt T K bs b)) := by
  show some ((lookD es (tx bs)).getD (gD b)) = _
  rw [h bs]
  unfold gt
  split <;> rfl
theorem get2_of {ρ : List Sl} {s s1 s2 s3 : Tau} {da db dc : Dn} {x y z w : D} (h1 : da ρ s = some (x, s1)) (h2 : db ρ s1 = some (y, s2)) (h3 : dc ρ s2 = some (z, s3)) (h4 : dget2D x y z = some w) : dGet2 da db dc ρ s = some (w, s3) := by
  unfold dGet2
  rw [h1]
  show Option.bind (db ρ s1) _ = _
  rw [h2]
  show Option.bind (dc ρ s2) _ = _
  rw [h3]
  show Option.map _ (dget2D x y z) = _
  rw [h4]; rfl
theorem sh_at {bs : List Bool} {i : Nat} (h : i < bs.length) : bs[i]? = some (sh bs i) := by
  unfold sh
  rw [List.getElem?_eq_getElem h]; rfl
/-- the rows of at most three voices -/
def sh3 : List (List Bool) := rb 1 ++ rb 2 ++ rb 3
/-- a length at which some place is not heard -/
def deaf (T : List Bool → Bool) (n : Nat) : Bool := (List.range n).any fun i => !(rb n).any fun bs => !(T bs == T (fl bs i))
/-- the p-th promise is kept by what is told -/
def fine (T K : List Bool → Bool) (p : Nat) : Bool :=
  if p = 3 then !((List.range 3).any fun i => deaf T (1 + i)) else if p = 5 then (sh3.any fun bs => md bs && T bs) && (sh3.any fun bs => md bs && !T bs) else !(sh3.any fun bs => torn T K p bs)
theorem cntL_sg (l : List Bool) : cntL (l.map sg) = (if l.contains true then 1 else 0) + (if l.contains false then 1 else 0) := by
  have key : ∀ l : List Bool, cntM (l.map sg) = (if l.contains true then 1 else 0) + (if l.contains false then 1 else 0) := fun l => by
    induction l with
    | nil => rfl
    | cons b l ih =>
      show cntM (l.map sg) + (if (l.map sg).contains (sg b) then 0 else 1) = _
      rw [ih, contains_map_inj (fun a b h => by revert h; revert a b; decide) b l, List.contains_cons, List.contains_cons]
      cases b <;> cases l.contains true <;> cases l.contains false <;> rfl
  have h := key l.reverse
  unfold cntL
  rw [← List.map_reverse, h]
  have e : ∀ c : Bool, l.reverse.contains c = l.contains c := fun c => by
    rw [List.contains_eq_mem, List.contains_eq_mem]
    exact decide_eq_decide.mpr List.mem_reverse
  rw [e, e]
end Dl
end
section
set_option Elab.async false
set_option linter.all false
set_option maxRecDepth 100000
set_option maxHeartbeats 4000000
namespace Dl
open PySem L2 PyProof.Rows
/-! tables that are drawn -/
def tab (l : List (List Bool × Bool)) : List (Str × D) := l.map fun z => (tx z.1, gD z.2)
def IsTab (es : List (Str × D)) : Prop := ∃ l : List (List Bool × Bool), es = tab l ∧ l.map Prod.fst = sh3
def K3 (bs : List Bool) : Bool := !bs.isEmpty && decide (bs.length ≤ 3)
theorem mem_sh3 (bs : List Bool) : bs ∈ sh3 ↔ K3 bs = true := by
  unfold sh3 K3
  rw [List.mem_append, List.mem_append, mem_rb, mem_rb, mem_rb, Bool.and_eq_true, decide_eq_true_iff]
  cases bs with
  | nil => simp
  | cons b r =>
    simp only [List.length_cons, List.isEmpty_cons, Bool.not_false, true_and]
    omega
def tabT (l : List (List Bool × Bool)) (bs : List Bool) : Bool := (l.lookup bs).getD true
theorem look_tab (l : List (List Bool × Bool)) (bs : List Bool) : lookD (tab l) (tx bs) = (l.lookup bs).map gD := by
  induction l with
  | nil => rfl
  | cons z l ih =>
    obtain ⟨k, b⟩ := z
    show ((((tx k, gD b) :: tab l).find? fun kv => decide (kv.1 = tx bs)).map fun kv => kv.2) = _
    rw [List.find?_cons, List.lookup_cons]
    by_cases e : bs = k
    · subst e
      rw [beq_self_eq_true, decide_eq_true rfl]; rfl
    · rw [beq_eq_false_iff_ne.mpr e, decide_eq_false fun z => e (tx_inj z).symm]
      exact ih
theorem look_some {l : List (List Bool × Bool)} (bs : List Bool) : (l.lookup bs).isSome = (l.map Prod.fst).contains bs := by
  induction l with
  | nil => rfl
  | cons z l ih =>
    obtain ⟨k, b⟩ := z
    rw [List.lookup_cons, List.map_cons, List.contains_cons]
    cases e : bs == k with
    | true => rfl
    | false => rw [Bool.false_or]; exact ih
theorem isTab_S {es : List (Str × D)} (h : IsTab es) : ∃ T, TabS es T K3 := by
  obtain ⟨l, rfl, hl⟩ := h
  refine ⟨tabT l, fun bs => ?_⟩
  rw [look_tab]
  have hs := look_some (l := l) bs
  rw [hl] at hs
  by_cases k : K3 bs = true
  · rw [if_pos k]
    rw [List.contains_iff_mem.mpr ((mem_sh3 bs).mpr k)] at hs
    obtain ⟨b, hb⟩ := Option.isSome_iff_exists.mp hs
    unfold tabT
    rw [hb]; rfl
  · rw [if_neg k]
    have : sh3.contains bs = false := by
      rw [Bool.eq_false_iff]
      intro z
      exact k ((mem_sh3 bs).mp (List.contains_iff_mem.mp z))
    rw [this] at hs
    rw [Option.isSome_eq_false_iff, Option.isNone_iff_eq_none] at hs
    rw [hs]; rfl
theorem put_tab (l : List (List Bool × Bool)) {k : List Bool} (v : Bool) (hk : k ∈ l.map Prod.fst) : ∃ l', putD (tab l) (tx k) (gD v) = tab l' ∧ l'.map Prod.fst = l.map Prod.fst := by
  refine ⟨l.map fun z => if z.1 = k then (k, v) else z, ?_, ?_⟩
  · unfold putD
    have : ((tab l).any fun kv => decide (kv.1 = tx k)) = true := by
      obtain ⟨z, hz, rfl⟩ := List.mem_map.mp hk
      exact List.any_eq_true.mpr ⟨(tx z.1, gD z.2), List.mem_map.mpr ⟨z, hz, rfl⟩, decide_eq_true rfl⟩
    rw [if_pos this]
    unfold tab
    rw [List.map_map, List.map_map]
    refine List.map_congr_left fun z _ => ?_
    show (if tx z.1 = tx k then (tx z.1, gD v) else (tx z.1, gD z.2)) = (tx (if z.1 = k then (k, v) else z).1, gD (if z.1 = k then (k, v) else z).2)
    by_cases e : z.1 = k
    · rw [if_pos (congrArg tx e), if_pos e, e]
    · rw [if_neg fun q => e (tx_inj q), if_neg e]
  · rw [List.map_map]
    refine List.map_congr_left fun z _ => ?_
    show (if z.1 = k then (k, v) else z).1 = z.1
    by_cases e : z.1 = k
    · rw [if_pos e]; exact e.symm
    · rw [if_neg e]
theorem isTab_put {es : List (Str × D)} (h : IsTab es) {k : List Bool} (v : Bool) (hk : k ∈ sh3) : IsTab (putD es (tx k) (gD v)) := by
  obtain ⟨l, rfl, hl⟩ := h
  obtain ⟨l', h1, h2⟩ := put_tab l v (by rw [hl]; exact hk)
  exact ⟨l', h1, h2.trans hl⟩
theorem isTab_len {es : List (Str × D)} (h : IsTab es) : es.length = 14 := by
  obtain ⟨l, rfl, hl⟩ := h
  have e : l.length = sh3.length := by rw [← hl, List.length_map]
  unfold tab
  rw [List.length_map, e]; rfl
theorem isTab_get {es : List (Str × D)} (h : IsTab es) {k : List Bool} (hk : k ∈ sh3) : ∃ b, lookD es (tx k) = some (gD b) := by
  obtain ⟨T, ht⟩ := isTab_S h
  exact ⟨T k, (ht k).trans (if_pos ((mem_sh3 k).mp hk))⟩
theorem Dmn_sh3 (T : List Bool → Bool) {bs : List Bool} (h : bs ∈ sh3) : ∀ p, Dmn T K3 p bs := by
  have hk := (mem_sh3 bs).mp h
  have hl : bs ≠ [] ∧ bs.length ≤ 3 := by
    unfold K3 at hk
    rw [Bool.and_eq_true, decide_eq_true_iff] at hk
    refine ⟨fun e => ?_, hk.2⟩
    rw [e] at hk
    exact absurd hk.1 (by decide)
  have mk : ∀ cs : List Bool, cs.length = bs.length → K3 cs = true := fun cs e => by
    unfold K3
    rw [Bool.and_eq_true, decide_eq_true_iff]
    refine ⟨?_, by omega⟩
    cases cs with
    | nil => exact absurd (List.length_eq_zero_iff.mp e.symm) hl.1
    | cons => rfl
  have pos : 0 < bs.length := List.length_pos_iff.mpr hl.1
  have mk2 : ∀ cs : List Bool, 0 < cs.length → cs.length ≤ 3 → K3 cs = true := fun cs e1 e2 => by
    unfold K3
    rw [Bool.and_eq_true, decide_eq_true_iff]
    refine ⟨?_, e2⟩
    cases cs with
    | nil => exact absurd e1 (by decide)
    | cons => rfl
  intro p
  unfold Dmn
  split
  · exact mk _ (List.length_map _)
  · exact fun i _ _ => mk _ (fl_len bs i)
  · intro i hi
    refine mk _ ?_
    unfold xc
    rw [List.length_append, List.length_cons, List.length_cons, List.length_take, List.length_drop]
    omega
  · intro i hi
    refine ⟨mk2 _ ?_ ?_, mk2 _ ?_ ?_, mk2 _ (by show 0 < 2; decide) (by show 2 ≤ 3; decide)⟩
    · rw [List.length_take]; omega
    · rw [List.length_take]; omega
    · rw [List.length_drop]; omega
    · rw [List.length_drop]; omega
  · trivial
theorem eq_kept_tD (p : List Bool → Bool) (xs : List (List Bool)) : eqD (.lst ((xs.filter p).map tD)) (.lst []) = some (.bl (!xs.any p)) := by
  have e : eqB (.lst ((xs.filter p).map tD)) (.lst []) = some (decide ((xs.filter p).length = 0)) := by
    have h1 : (D.lst ((xs.filter p).map tD)).conv = some (.list (((xs.filter p).map tx).map PyData.str)) := by
      show (convL ((xs.filter p).map tD)).map PyData.list = _
      rw [convL_map tD (fun bs => PyData.str (tx bs)) fun _ => rfl, List.map_map]; rfl
    rw [eqB_of h1 (show (D.lst []).conv = some (.list []) from rfl) (shaped_strsL fun x hx => by obtain ⟨b, _, rfl⟩ := List.mem_map.mp hx; exact strOk_tx b) rfl]
    cases (xs.filter p) <;> rfl
  unfold eqD
  rw [e, ← any_len, Bool.not_not]; rfl
theorem eq_kept {α : Type} (f : α → Int) (p : α → Bool) (xs : List α) : eqD (.lst ((xs.filter p).map fun x => D.int (f x))) (.lst []) = some (.bl (!xs.any p)) := by
  have := eq_ints_nil ((xs.filter p).map f)
  rw [List.map_map, List.length_map] at this
  rw [← any_len, Bool.not_not]
  exact this
theorem two_sg (l : List Bool) : (((cntL (l.map sg) : Nat) : Int) == 2) = (l.contains true && l.contains false) := by
  rw [cntL_sg]
  cases l.contains true <;> cases l.contains false <;> rfl
theorem lenSetL_of {da : Dn} {ρ : List Sl} {s s1 : Tau} {l : List Bool} (h : da ρ s = some (.lst (l.map gD), s1)) (hl : l.length ≤ 1000) : dLenSet da ρ s = some (.int (cntL (l.map sg) : Nat), s1) := by
  unfold dLenSet
  rw [h]
  show ((strsOf (l.map gD)).bind fun xs => if xs.length ≤ 1000 then some (D.int (cntL xs : Nat), s1) else none) = _
  have e : strsOf (l.map gD) = some (l.map sg) := strs_map sg l
  rw [e]
  show (if (l.map sg).length ≤ 1000 then _ else _) = _
  rw [if_pos (by rw [List.length_map]; exact hl)]
theorem lenSetS_of {da : Dn} {ρ : List Sl} {s s1 : Tau} {l : List Bool} (h : da ρ s = some (tD l, s1)) (hl : l.length ≤ 1000) : dLenSet da ρ s = some (.int (cntL (l.map sg) : Nat), s1) := by
  unfold dLenSet
  rw [h]
  have e : ((tx l).cps.toList.map fun k => (⟨#[k]⟩ : Str)) = l.map sg := by
    rw [tx_list, List.map_map]; rfl
  show ((some ((tx l).cps.toList.map fun k => (⟨#[k]⟩ : Str))).bind fun xs => if xs.length ≤ 1000 then some (D.int (cntL xs : Nat), s1) else none) = _
  rw [e]
  show (if (l.map sg).length ≤ 1000 then _ else _) = _
  rw [if_pos (by rw [List.length_map]; exact hl)]
/-- what fine says hangs on the told rows alone -/
theorem gt_congr {T T' : List Bool → Bool} (h : ∀ bs ∈ sh3, T bs = T' bs) (k : List Bool) (b : Bool) : gt T K3 k b = gt T' K3 k b := by
  unfold gt
  by_cases z : K3 k = true
  · rw [if_pos z, if_pos z, h k ((mem_sh3 k).mpr z)]
  · rw [if_neg z, if_neg z]
theorem any_congr' {α : Type} {p q : α → Bool} {xs : List α} (h : ∀ x ∈ xs, p x = q x) : xs.any p = xs.any q := by
  induction xs with
  | nil => rfl
  | cons x xs ih => rw [List.any_cons, List.any_cons, h x List.mem_cons_self, ih fun y hy => h y (List.mem_cons_of_mem _ hy)]
theorem torn_congr {T T' : List Bool → Bool} (h : ∀ bs ∈ sh3, T bs = T' bs) {bs : List Bool} (hb : bs ∈ sh3) (p : Nat) : torn T K3 p bs = torn T' K3 p bs := by
  have d := Dmn_sh3 T hb p
  have d' := Dmn_sh3 T' hb p
  have e := h bs hb
  unfold torn Dmn at *
  split
  · rw [e]
  · rw [e, h _ ((mem_sh3 _).mpr d)]
  · rw [e]
    congr 1
    refine any_congr' fun i hi => ?_
    cases q : sh bs i with
    | true => rfl
    | false => rw [h _ ((mem_sh3 _).mpr (d i (List.mem_range.mp hi) q))]
  · rw [e]
  · rw [e]
    refine any_congr' fun i hi => ?_
    have hi := List.mem_range.mp hi
    rw [h _ ((mem_sh3 _).mpr (d i (by omega)))]
  · rw [e]
    refine any_congr' fun i hi => ?_
    have hi := List.mem_range.mp hi
    obtain ⟨d1, d2, d3⟩ := d i (by omega)
    rw [h _ ((mem_sh3 _).mpr d1), h _ ((mem_sh3 _).mpr d2)] at d3 ⊢
    rw [h _ ((mem_sh3 _).mpr d3)]
  · rw [e]
    exact any_congr' fun i _ => by rw [gt_congr h]
  · rw [e]
    exact any_congr' fun i _ => by rw [gt_congr h]
theorem deaf_congr {T T' : List Bool → Bool} (h : ∀ bs ∈ sh3, T bs = T' bs) {n : Nat} (h1 : 1 ≤ n) (h3 : n ≤ 3) : deaf T n = deaf T' n := by
  unfold deaf
  have mk : ∀ cs : List Bool, cs.length = n → cs ∈ sh3 := fun cs e => (mem_sh3 cs).mpr (by
    unfold K3
    rw [Bool.and_eq_true, decide_eq_true_iff]
    refine ⟨?_, by omega⟩
    cases cs with
    | nil => exact absurd e (by show ¬(0 = n); omega)
    | cons => rfl)
  refine any_congr' fun i _ => congrArg (!·) (any_congr' fun bs hb => ?_)
  have hb := (mem_rb n bs).mp hb
  rw [h bs (mk bs hb), h _ (mk _ ((fl_len bs i).trans hb))]
theorem fine_congr {T T' : List Bool → Bool} (h : ∀ bs ∈ sh3, T bs = T' bs) (p : Nat) : fine T K3 p = fine T' K3 p := by
  unfold fine
  split
  · refine congrArg (!·) (any_congr' fun i hi => ?_)
    have hi := List.mem_range.mp hi
    exact deaf_congr h (by omega) (by omega)
  · split
    · exact congr (congrArg and (any_congr' fun bs hb => by rw [h bs hb])) (any_congr' fun bs hb => by rw [h bs hb])
    · exact congrArg (!·) (any_congr' fun bs hb => torn_congr h hb p)
/-- a table from its fourteen answers -/
def tb (b0 b1 b2 b3 b4 b5 b6 b7 b8 b9 b10 b11 b12 b13 : Bool) : List Bool → Bool
  | [true] => b0 | [false] => b1
  | [true, true] => b2 | [true, false] => b3 | [false, true] => b4 | [false, false] => b5
  | [true, true, true] => b6 | [true, true, false] => b7 | [true, false, true] => b8 | [true, false, false] => b9
  | [false, true, true] => b10 | [false, true, false] => b11 | [false, false, true] => b12 | [false, false, false] => b13
  | _ => true
theorem fine_tb (T : List Bool → Bool) (p : Nat) : fine T K3 p = fine (tb (T [true]) (T [false]) (T [true, true]) (T [true, false]) (T [false, true]) (T [false, false]) (T [true, true, true]) (T [true, true, false]) (T [true, false, true]) (T [true, false, false]) (T [false, true, true]) (T [false, true, false]) (T [false, false, true]) (T [false, false, false])) K3 p := by
  refine fine_congr (fun bs hb => ?_) p
  have e : sh3 = [[true], [false], [true, true], [true, false], [false, true], [false, false], [true, true, true], [true, true, false], [true, false, true], [true, false, false], [false, true, true], [false, true, false], [false, false, true], [false, false, false]] := by decide +kernel
  rw [e] at hb
  simp only [List.mem_cons, List.not_mem_nil, or_false] at hb
  rcases hb with rfl | rfl | rfl | rfl | rfl | rfl | rfl | rfl | rfl | rfl | rfl | rfl | rfl | rfl <;> rfl
end Dl
end
section
set_option Elab.async false
set_option linter.all false
set_option maxRecDepth 100000
set_option maxHeartbeats 4000000
namespace Dl
open PySem L2 PyProof.Rows
/-! no table keeps a clash -/
theorem fine_row {T : List Bool → Bool} {p : Nat} (h3 : p ≠ 3) (h5 : p ≠ 5) (h : fine T K3 p = true) {bs : List Bool} (hb : bs ∈ sh3) : torn T K3 p bs = false := by
  unfold fine at h
  rw [if_neg h3, if_neg h5] at h
  cases q : torn T K3 p bs with
  | false => rfl
  | true =>
    have : (sh3.any fun bs => torn T K3 p bs) = true := List.any_eq_true.mpr ⟨bs, hb, q⟩
    rw [this] at h
    cases h
theorem parts_at {T : List Bool → Bool} (h : fine T K3 8 = true) (bs : List Bool) (hb : bs ∈ sh3) (hi : 0 < bs.length - 1) : T bs = T [T (bs.take 1), T (bs.drop 1)] := by
  have q : ((List.range (bs.length - 1)).any fun i => !(T [T (bs.take (1 + i)), T (bs.drop (1 + i))] == T bs)) = false := fine_row (by decide) (by decide) h hb
  have := List.any_eq_false.mp q 0 (List.mem_range.mpr hi)
  rw [Bool.not_eq_true, Bool.not_eq_false'] at this
  exact (beq_iff_eq.mp this).symm
theorem rep_at {T : List Bool → Bool} (h : fine T K3 9 = true) (bs : List Bool) (hb : bs ∈ sh3) (i : Nat) (hi : i < bs.length) (hk : K3 (ins bs i (sh bs i)) = true) : T (ins bs i (sh bs i)) = T bs := by
  have q : ((List.range bs.length).any fun i => !(gt T K3 (ins bs i (sh bs i)) (T bs) == T bs)) = false := fine_row (by decide) (by decide) h hb
  have := List.any_eq_false.mp q i (List.mem_range.mpr hi)
  rw [Bool.not_eq_true, Bool.not_eq_false'] at this
  unfold gt at this
  rw [if_pos hk] at this
  exact beq_iff_eq.mp this
theorem even_at {T : List Bool → Bool} (h : fine T K3 1 = true) (bs : List Bool) (hb : bs ∈ sh3) : T (bs.map not) = !T bs := by
  have q : (T (bs.map not) == T bs) = false := fine_row (by decide) (by decide) h hb
  cases e : T (bs.map not) <;> cases e2 : T bs <;> rw [e, e2] at q <;> first | rfl | cases q
def qq (b2 b3 b4 b5 : Bool) : Bool → Bool → Bool
  | true, true => b2 | true, false => b3 | false, true => b4 | false, false => b5
def tbp (b0 b1 b2 b3 b4 b5 : Bool) : List Bool → Bool := tb b0 b1 b2 b3 b4 b5 (qq b2 b3 b4 b5 b0 b2) (qq b2 b3 b4 b5 b0 b3) (qq b2 b3 b4 b5 b0 b4) (qq b2 b3 b4 b5 b0 b5) (qq b2 b3 b4 b5 b1 b2) (qq b2 b3 b4 b5 b1 b3) (qq b2 b3 b4 b5 b1 b4) (qq b2 b3 b4 b5 b1 b5)
def tbr (b0 b1 b3 b4 b8 b11 : Bool) : List Bool → Bool := tb b0 b1 b0 b3 b4 b1 b0 b3 b8 b3 b4 b11 b4 b1
def tbe (b0 b2 b3 b6 b7 b8 b9 : Bool) : List Bool → Bool := tb b0 (!b0) b2 b3 (!b3) (!b2) b6 b7 b8 b9 (!b9) (!b8) (!b7) (!b6)
theorem qq_T (T : List Bool → Bool) (a b : Bool) : T [a, b] = qq (T [true, true]) (T [true, false]) (T [false, true]) (T [false, false]) a b := by cases a <;> cases b <;> rfl
theorem sh3_eq : sh3 = [[true], [false], [true, true], [true, false], [false, true], [false, false], [true, true, true], [true, true, false], [true, false, true], [true, false, false], [false, true, true], [false, true, false], [false, false, true], [false, false, false]] := by decide +kernel
theorem tbl_eq {T : List Bool → Bool} {b0 b1 b2 b3 b4 b5 b6 b7 b8 b9 b10 b11 b12 b13 : Bool} (h0 : T [true] = b0) (h1 : T [false] = b1) (h2 : T [true, true] = b2) (h3 : T [true, false] = b3) (h4 : T [false, true] = b4) (h5 : T [false, false] = b5)
    (h6 : T [true, true, true] = b6) (h7 : T [true, true, false] = b7) (h8 : T [true, false, true] = b8) (h9 : T [true, false, false] = b9) (h10 : T [false, true, true] = b10) (h11 : T [false, true, false] = b11) (h12 : T [false, false, true] = b12) (h13 : T [false, false, false] = b13) (p : Nat) :
    fine T K3 p = fine (tb b0 b1 b2 b3 b4 b5 b6 b7 b8 b9 b10 b11 b12 b13) K3 p := by
  subst h0 h1 h2 h3 h4 h5 h6 h7 h8 h9 h10 h11 h12 h13
  exact fine_tb T p
theorem in3 {bs : List Bool} (h : K3 bs = true := by rfl) : bs ∈ sh3 := (mem_sh3 bs).mpr h
theorem fine_p {T : List Bool → Bool} (h : fine T K3 8 = true) (p : Nat) : fine T K3 p = fine (tbp (T [true]) (T [false]) (T [true, true]) (T [true, false]) (T [false, true]) (T [false, false])) K3 p :=
  tbl_eq rfl rfl rfl rfl rfl rfl ((parts_at h _ in3 (by decide)).trans (qq_T T _ _)) ((parts_at h _ in3 (by decide)).trans (qq_T T _ _)) ((parts_at h _ in3 (by decide)).trans (qq_T T _ _)) ((parts_at h _ in3 (by decide)).trans (qq_T T _ _))
    ((parts_at h _ in3 (by decide)).trans (qq_T T _ _)) ((parts_at h _ in3 (by decide)).trans (qq_T T _ _)) ((parts_at h _ in3 (by decide)).trans (qq_T T _ _)) ((parts_at h _ in3 (by decide)).trans (qq_T T _ _)) p
theorem fine_r {T : List Bool → Bool} (h : fine T K3 9 = true) (p : Nat) : fine T K3 p = fine (tbr (T [true]) (T [false]) (T [true, false]) (T [false, true]) (T [true, false, true]) (T [false, true, false])) K3 p := by
  have e1 : T [true, true] = T [true] := rep_at h [true] in3 0 (by decide) rfl
  have e2 : T [false, false] = T [false] := rep_at h [false] in3 0 (by decide) rfl
  exact tbl_eq rfl rfl e1 rfl rfl e2 ((rep_at h [true, true] in3 0 (by decide) rfl).trans e1) (rep_at h [true, false] in3 0 (by decide) rfl) rfl (rep_at h [true, false] in3 1 (by decide) rfl)
    (rep_at h [false, true] in3 1 (by decide) rfl) rfl (rep_at h [false, true] in3 0 (by decide) rfl) ((rep_at h [false, false] in3 0 (by decide) rfl).trans e2) p
theorem fine_e {T : List Bool → Bool} (h : fine T K3 1 = true) (p : Nat) : fine T K3 p = fine (tbe (T [true]) (T [true, true]) (T [true, false]) (T [true, true, true]) (T [true, true, false]) (T [true, false, true]) (T [true, false, false])) K3 p :=
  tbl_eq rfl (even_at h [true] in3) rfl rfl (even_at h [true, false] in3) (even_at h [true, true] in3) rfl rfl rfl rfl (even_at h [true, false, false] in3) (even_at h [true, false, true] in3) (even_at h [true, true, false] in3) (even_at h [true, true, true] in3) p
/-- all promises of a list are kept -/
def alf (T : List Bool → Bool) (c : List Nat) : Bool := c.all fun p => fine T K3 p
theorem noE : ∀ b0 b2 b3 b6 b7 b8 b9 : Bool, (alf (tbe b0 b2 b3 b6 b7 b8 b9) [1, 3] || alf (tbe b0 b2 b3 b6 b7 b8 b9) [1, 7]) = false := by decide +kernel
theorem noP : ∀ b0 b1 b2 b3 b4 b5 : Bool, (alf (tbp b0 b1 b2 b3 b4 b5) [8, 6] || alf (tbp b0 b1 b2 b3 b4 b5) [8, 0, 5, 3] || alf (tbp b0 b1 b2 b3 b4 b5) [8, 7, 0, 5] || alf (tbp b0 b1 b2 b3 b4 b5) [8, 2, 5, 3] || alf (tbp b0 b1 b2 b3 b4 b5) [8, 7, 2, 5] || alf (tbp b0 b1 b2 b3 b4 b5) [8, 4, 5, 3] || alf (tbp b0 b1 b2 b3 b4 b5) [8, 9, 5, 3] || alf (tbp b0 b1 b2 b3 b4 b5) [8, 7, 4, 5]) = false := by decide +kernel
theorem noR : ∀ b0 b1 b3 b4 b8 b11 : Bool, (alf (tbr b0 b1 b3 b4 b8 b11) [9, 6] || alf (tbr b0 b1 b3 b4 b8 b11) [9, 7, 5] || alf (tbr b0 b1 b3 b4 b8 b11) [9, 2, 5, 3] || alf (tbr b0 b1 b3 b4 b8 b11) [9, 4, 5, 3]) = false := by decide +kernel
theorem alf_eq {T T' : List Bool → Bool} (h : ∀ p, fine T K3 p = fine T' K3 p) (c : List Nat) : alf T c = alf T' c := by
  unfold alf
  exact congrArg c.all (funext h)
/-- the least clashes -/
def cls : List (List Nat) := [[1, 3], [1, 7], [6, 8], [6, 9], [5, 7, 9], [0, 3, 5, 8], [0, 5, 7, 8], [2, 3, 5, 8], [2, 3, 5, 9], [2, 5, 7, 8], [3, 4, 5, 8], [3, 4, 5, 9], [3, 5, 8, 9], [4, 5, 7, 8]]
theorem alf_mem {T : List Bool → Bool} {c d : List Nat} (h : alf T c = true) (hd : ∀ p ∈ d, p ∈ c) : alf T d = true := List.all_eq_true.mpr fun p hp => List.all_eq_true.mp h p (hd p hp)
theorem no_clash (T : List Bool → Bool) : ∀ c ∈ cls, alf T c = false := by
  intro c hc
  cases h : alf T c with
  | false => rfl
  | true =>
    exfalso
    have key : ∀ c ∈ cls, (1 ∈ c ∧ ((∀ p ∈ [1, 3], p ∈ c) ∨ ∀ p ∈ [1, 7], p ∈ c)) ∨
      (8 ∈ c ∧ ((∀ p ∈ [8, 6], p ∈ c) ∨ (∀ p ∈ [8, 0, 5, 3], p ∈ c) ∨ (∀ p ∈ [8, 7, 0, 5], p ∈ c) ∨ (∀ p ∈ [8, 2, 5, 3], p ∈ c) ∨ (∀ p ∈ [8, 7, 2, 5], p ∈ c) ∨ (∀ p ∈ [8, 4, 5, 3], p ∈ c) ∨ (∀ p ∈ [8, 9, 5, 3], p ∈ c) ∨ ∀ p ∈ [8, 7, 4, 5], p ∈ c)) ∨
      (9 ∈ c ∧ ((∀ p ∈ [9, 6], p ∈ c) ∨ (∀ p ∈ [9, 7, 5], p ∈ c) ∨ (∀ p ∈ [9, 2, 5, 3], p ∈ c) ∨ ∀ p ∈ [9, 4, 5, 3], p ∈ c)) := by decide +kernel
    have one : ∀ p ∈ c, fine T K3 p = true := fun p hp => List.all_eq_true.mp h p hp
    rcases key c hc with ⟨h1, k⟩ | ⟨h8, k⟩ | ⟨h9, k⟩
    · have n := noE (T [true]) (T [true, true]) (T [true, false]) (T [true, true, true]) (T [true, true, false]) (T [true, false, true]) (T [true, false, false])
      rw [← alf_eq (fine_e (one 1 h1)), ← alf_eq (fine_e (one 1 h1))] at n
      simp only [Bool.or_eq_false_iff] at n
      rcases k with k | k
      · rw [alf_mem h k] at n; exact absurd n.1 (by decide)
      · rw [alf_mem h k] at n; exact absurd n.2 (by decide)
    · have n := noP (T [true]) (T [false]) (T [true, true]) (T [true, false]) (T [false, true]) (T [false, false])
      simp only [← alf_eq (fine_p (one 8 h8)), Bool.or_eq_false_iff] at n
      obtain ⟨⟨⟨⟨⟨⟨⟨n1, n2⟩, n3⟩, n4⟩, n5⟩, n6⟩, n7⟩, n8⟩ := n
      rcases k with k | k | k | k | k | k | k | k
      · rw [alf_mem h k] at n1; cases n1
      · rw [alf_mem h k] at n2; cases n2
      · rw [alf_mem h k] at n3; cases n3
      · rw [alf_mem h k] at n4; cases n4
      · rw [alf_mem h k] at n5; cases n5
      · rw [alf_mem h k] at n6; cases n6
      · rw [alf_mem h k] at n7; cases n7
      · rw [alf_mem h k] at n8; cases n8
    · have n := noR (T [true]) (T [false]) (T [true, false]) (T [false, true]) (T [true, false, true]) (T [false, true, false])
      simp only [← alf_eq (fine_r (one 9 h9)), Bool.or_eq_false_iff] at n
      obtain ⟨⟨⟨n1, n2⟩, n3⟩, n4⟩ := n
      rcases k with k | k | k | k
      · rw [alf_mem h k] at n1; cases n1
      · rw [alf_mem h k] at n2; cases n2
      · rw [alf_mem h k] at n3; cases n3
      · rw [alf_mem h k] at n4; cases n4
/-- what the told ways keep -/
def kpI : List (List Nat) := [[0, 2, 3, 4, 7, 8, 9], [2, 4, 7, 8, 9], [2, 4, 7, 8, 9], [0, 2, 4, 5, 9], [0, 2, 3, 4, 7, 8, 9], [0, 1, 2, 4, 5, 8, 9], [0, 3, 5, 9], [0, 1, 2, 4, 5, 8, 9], [0, 2, 3, 4, 5, 6, 7], [0, 2, 3, 4, 5, 6, 7], [0, 1, 2, 4, 5, 6], [0, 1, 2, 4, 5, 6], [3, 5, 7, 8]]
/-- a set of promises, by its marks -/
def pick (m : List Bool) : List Nat := (List.range 10).filter fun p => sh m p
theorem some_way : ((rb 10).all fun m => (cls.any fun c => c.all fun p => (pick m).contains p) || kpI.any fun k => (pick m).all fun p => k.contains p) = true := by decide +kernel
end Dl
end
section
set_option Elab.async false
set_option linter.all false
set_option maxRecDepth 100000
set_option maxHeartbeats 4000000
namespace Dl
open PySem L2 PyProof.Rows
/-! sets of promises, as tuples of texts -/
def proD (p : Nat) : D := .str (pr p)
def wD (w : List Nat) : D := .tup (w.map proD)
def kp (i : Nat) : List Nat := kpI.getD i []
theorem pr_eq : ∀ p : Nat, p < 10 → ∀ q : Nat, q < 10 → (pr p == pr q) = (p == q) := by decide +kernel
theorem pr_ok : ∀ p : Nat, p < 10 → PyData.strOk (pr p) = true := by decide +kernel
theorem wy_ok : ∀ i : Nat, i < 13 → PyData.strOk (wy i) = true := by decide +kernel
theorem pr_lt : ∀ p : Nat, p < 10 → ∀ q : Nat, q < 10 → p < q → decide ((pr p).cps.toList < (pr q).cps.toList) = true := by decide +kernel
theorem pr_in {p : Nat} (hp : p < 10) : ∀ {w : List Nat}, (∀ q ∈ w, q < 10) → (w.map pr).contains (pr p) = w.contains p
  | [], _ => rfl
  | q :: w, h => by
    rw [List.map_cons, List.contains_cons, List.contains_cons, pr_eq p hp q (h q List.mem_cons_self), pr_in hp fun z hz => h z (List.mem_cons_of_mem _ hz)]
theorem in_prs {d : D} {ds : List D} {w : List Nat} {p : Nat} (hd : d.its = some ds) (he : ds = w.map proD) (hw : ∀ q ∈ w, q < 10) (hp : p < 10) : inD (proD p) d = some (.bl (w.contains p)) := by
  unfold inD proD
  rw [inB_strs (xs := w.map pr) hd (by rw [he, List.map_map]; rfl) (fun x hx => by obtain ⟨q, hq, rfl⟩ := List.mem_map.mp hx; exact pr_ok q (hw q hq)) (pr_ok p hp), pr_in hp hw]; rfl
theorem bools_map {α : Type} (f : α → Bool) : ∀ xs : List α, boolsOf (xs.map fun x => D.bl (f x)) = some (xs.map f)
  | [] => rfl
  | x :: xs => by
    show (boolsOf (xs.map fun x => D.bl (f x))).map (fun bs => f x :: bs) = _
    rw [bools_map f xs]; rfl
theorem all_bls {α : Type} (f : α → Bool) (xs : List α) : allD [.lst (xs.map fun x => D.bl (f x))] = some (.bl (xs.all f)) := by
  show (boolsOf (xs.map fun x => D.bl (f x))).map (fun bs => D.bl (bs.all id)) = _
  rw [bools_map]
  show some (D.bl ((xs.map f).all id)) = _
  rw [List.all_map]; rfl
theorem any_bls {α : Type} (f : α → Bool) (xs : List α) : anyD [.lst (xs.map fun x => D.bl (f x))] = some (.bl (xs.any f)) := by
  show (boolsOf (xs.map fun x => D.bl (f x))).map (fun bs => D.bl (bs.any id)) = _
  rw [bools_map]
  show some (D.bl ((xs.map f).any id)) = _
  rw [List.any_map]; rfl
theorem zip_lt : ∀ {w : List Nat}, w.Pairwise (· < ·) → ∀ z ∈ w.zip (w.drop 1), z.1 < z.2
  | [], _, z, h => by cases h
  | [a], _, z, h => by cases h
  | a :: b :: r, hw, z, h => by
    have h1 := List.pairwise_cons.mp hw
    rw [List.drop_succ_cons, List.drop_zero, List.zip_cons_cons] at h
    rcases List.mem_cons.mp h with rfl | h
    · exact h1.1 b List.mem_cons_self
    · exact zip_lt h1.2 z (by rw [List.drop_succ_cons, List.drop_zero]; exact h)
theorem zipL_map (w : List Nat) : zipL (w.map proD) ((w.map proD).drop 1) = (w.zip (w.drop 1)).map fun z => D.ktp [proD z.1, proD z.2] := by
  rw [← List.map_drop]
  unfold zipL
  generalize w.drop 1 = u
  induction w generalizing u with
  | nil => rfl
  | cons a w ih =>
    cases u with
    | nil => rfl
    | cons b u => rw [List.map_cons, List.map_cons, List.zipWith_cons_cons, List.zip_cons_cons, List.map_cons, ih]
theorem ne_strs_kept {α : Type} (f : α → Str) (p : α → Bool) (xs : List α) (h : ∀ x ∈ xs, PyData.strOk (f x) = true) : neD (.lst ((xs.filter p).map fun x => D.str (f x))) (.lst []) = some (.bl (xs.any p)) := by
  have e : eqB (.lst ((xs.filter p).map fun x => D.str (f x))) (.lst []) = some (decide ((xs.filter p).length = 0)) := by
    have h1 : (D.lst ((xs.filter p).map fun x => D.str (f x))).conv = some (.list (((xs.filter p).map f).map PyData.str)) := by
      show (convL ((xs.filter p).map fun x => D.str (f x))).map PyData.list = _
      rw [convL_map (fun x => D.str (f x)) (fun x => PyData.str (f x)) fun _ => rfl, List.map_map]; rfl
    rw [eqB_of h1 (show (D.lst []).conv = some (.list []) from rfl) (shaped_strsL fun x hx => by obtain ⟨b, hb, rfl⟩ := List.mem_map.mp hx; exact h b ((List.mem_filter.mp hb).1)) rfl]
    cases (xs.filter p) <;> rfl
  unfold neD
  rw [e, ← any_len]; rfl
theorem zipT_of {ax : Da} {ρ : List Sl} {s s1 : Tau} {x y : D} {ds es : List D} (h : ax ρ s = some ([x, y], s1)) (h1 : x.asT = some ds) (h2 : y.asT = some es) : dZipT ax ρ s = some (zipL ds es, s1) := by
  unfold dZipT
  rw [h]
  show Option.bind x.asT _ = _
  rw [h1]
  show Option.map _ y.asT = _
  rw [h2]; rfl
/-- an ascending set of promises -/
def Asc (w : List Nat) : Prop := w.Pairwise (· < ·) ∧ ∀ p ∈ w, p < 10
theorem asc_filter (f : Nat → Bool) : Asc ((List.range 10).filter f) :=
  ⟨(List.pairwise_lt_range (n := 10)).filter f, fun p hp => List.mem_range.mp ((List.mem_filter.mp hp).1)⟩
/-- way i keeps all of w -/
def keeps_ (w : List Nat) (i : Nat) : Bool := w.all fun p => (kp i).contains p
def inside (w c : List Nat) : Bool := c.all fun p => w.contains p
theorem kp_ok : ∀ i : Nat, i < 13 → ∀ p ∈ kp i, p < 10 := by decide +kernel
theorem cls_ok : ∀ c ∈ cls, ∀ p ∈ c, p < 10 := by decide +kernel
/-- a table's promises are kept by some told way, and hold no clash -/
theorem table_way (T : List Bool → Bool) : (List.range 13).any (keeps_ ((List.range 10).filter (fine T K3))) = true ∧ cls.filter (inside ((List.range 10).filter (fine T K3))) = [] := by
  have hm : (List.range 10).map (fine T K3) ∈ rb 10 := (mem_rb 10 _).mpr (by rw [List.length_map, List.length_range])
  have e : pick ((List.range 10).map (fine T K3)) = (List.range 10).filter (fine T K3) := by
    unfold pick
    refine List.filter_congr fun p hp => ?_
    unfold sh
    rw [List.getElem?_map, List.getElem?_range (List.mem_range.mp hp)]; rfl
  have h := List.all_eq_true.mp some_way _ hm
  rw [e] at h
  have nc : ∀ c ∈ cls, inside ((List.range 10).filter (fine T K3)) c = false := fun c hc => by
    rw [Bool.eq_false_iff]
    intro z
    have : alf T c = true := List.all_eq_true.mpr fun p hp => by
      have := List.all_eq_true.mp z p hp
      exact (List.mem_filter.mp (List.contains_iff_mem.mp this)).2
    rw [no_clash T c hc] at this
    cases this
  have n1 : (cls.any fun c => c.all fun p => ((List.range 10).filter (fine T K3)).contains p) = false := by
    rw [List.any_eq_false]
    exact fun c hc => by rw [show (c.all fun p => ((List.range 10).filter (fine T K3)).contains p) = false from nc c hc]; decide
  rw [n1, Bool.false_or] at h
  refine ⟨?_, List.filter_eq_nil_iff.mpr fun c hc => by rw [nc c hc]; decide⟩
  obtain ⟨k, hk, h2⟩ := List.any_eq_true.mp h
  obtain ⟨i, hi, rfl⟩ := List.mem_iff_getElem.mp hk
  refine List.any_eq_true.mpr ⟨i, List.mem_range.mpr hi, ?_⟩
  unfold keeps_ kp
  rw [List.getD_eq_getElem?_getD, List.getElem?_eq_getElem hi]
  exact h2
end Dl
end
section
set_option Elab.async false
set_option linter.all false
set_option maxRecDepth 100000
set_option maxHeartbeats 4000000
namespace Dl
open PySem L2 PyProof.Rows
/-! tables of answers, told by tuples of voices -/
def TabT (es : List (List Str × D)) (T K : List Bool → Bool) : Prop := ∀ bs : List Bool, lookD es (bs.map vs) = if K bs = true then some (vD (T bs)) else none
theorem strs_vD : ∀ bs : List Bool, strsOf (bs.map vD) = some (bs.map vs)
  | [] => rfl
  | b :: bs => by
    show (strsOf (bs.map vD)).map _ = _
    rw [strs_vD bs]; rfl
theorem row_of_vD {d : D} {bs : List Bool} (h : d.asT = some (bs.map vD)) : rowOf d = some (bs.map vs) := by
  unfold rowOf
  rw [h]
  exact strs_vD bs
theorem vsL_inj : ∀ a b : List Bool, a.map vs = b.map vs → a = b
  | [], [], _ => rfl
  | [], _ :: _, h => by simp at h
  | _ :: _, [], h => by simp at h
  | a :: x, b :: y, h => by
    rw [List.map_cons, List.map_cons] at h
    injection h with h1 h2
    have e : a = b := by revert h1; revert a b; decide
    rw [e, vsL_inj x y h2]
theorem getT_tab {es : List (List Str × D)} {T K : List Bool → Bool} (h : TabT es T K) {bs : List Bool} {d : D} (hd : d.asT = some (bs.map vD)) (hk : K bs = true) : dgetTD (.dT es) d = some (vD (T bs)) := by
  show (rowOf d).bind _ = _
  rw [row_of_vD hd]
  exact (h bs).trans (if_pos hk)
theorem get2T_tab {es : List (List Str × D)} {T K : List Bool → Bool} (h : TabT es T K) (bs : List Bool) (b : Bool) : dget2TD (.dT es) (row bs) (vD b) = some (vD (gt T K bs b)) := by
  show (rowOf (row bs)).map _ = _
  rw [row_of_vD (d := row bs) rfl]
  show some ((lookD es (bs.map vs)).getD (vD b)) = _
  rw [h bs]
  unfold gt
  split <;> rfl
theorem get2T_of {ρ : List Sl} {s s1 s2 s3 : Tau} {da db dc : Dn} {x y z w : D} (h1 : da ρ s = some (x, s1)) (h2 : db ρ s1 = some (y, s2)) (h3 : dc ρ s2 = some (z, s3)) (h4 : dget2TD x y z = some w) : dGet2T da db dc ρ s = some (w, s3) := by
  unfold dGet2T
  rw [h1]
  show Option.bind (db ρ s1) _ = _
  rw [h2]
  show Option.bind (dc ρ s2) _ = _
  rw [h3]
  show Option.map _ (dget2TD x y z) = _
  rw [h4]; rfl
theorem look_zip (T : List Bool → Bool) (k : List Bool) : ∀ l : List (List Bool), lookD ((l.map fun bs => bs.map vs).zip (l.map fun bs => vD (T bs))) (k.map vs) = if l.contains k = true then some (vD (T k)) else none
  | [] => rfl
  | x :: l => by
    have ih := look_zip T k l
    unfold lookD at ih ⊢
    rw [List.map_cons, List.map_cons, List.zip_cons_cons, List.find?_cons, List.contains_cons]
    by_cases e : x = k
    · subst e
      rw [show decide ((x.map vs, vD (T x)).1 = x.map vs) = true from decide_eq_true rfl, beq_self_eq_true]; rfl
    · rw [show decide ((x.map vs, vD (T x)).1 = k.map vs) = false from decide_eq_false (fun z => e (vsL_inj _ _ z)), beq_eq_false_iff_ne.mpr (Ne.symm e), Bool.false_or]
      exact ih
theorem tabT_zip (T : List Bool → Bool) : TabT ((sh3.map fun bs => bs.map vs).zip (sh3.map fun bs => vD (T bs))) T K3 := fun bs => by
  rw [look_zip T bs sh3]
  have e : sh3.contains bs = K3 bs := by
    rw [List.contains_eq_mem]
    by_cases h : bs ∈ sh3
    · rw [decide_eq_true h, (mem_sh3 bs).mp h]
    · rw [decide_eq_false h]
      cases q : K3 bs with
      | false => rfl
      | true => exact absurd ((mem_sh3 bs).mpr q) h
  rw [e]
theorem rowsOf_rows : ∀ l : List (List Bool), rowsOf (l.map row) = some (l.map fun bs => bs.map vs)
  | [] => rfl
  | x :: l => by
    show (rowOf (row x)).bind _ = _
    rw [row_of_vD (d := row x) rfl]
    show (rowsOf (l.map row)).map _ = _
    rw [rowsOf_rows l]; rfl
theorem dictZip_of {ax : Da} {ρ : List Sl} {s s1 : Tau} {x y : D} {ds es : List D} {rs : List (List Str)} (h : ax ρ s = some ([x, y], s1)) (h1 : seqOf x = some ds) (h2 : rowsOf ds = some rs) (h3 : seqOf y = some es) (h4 : es.length = rs.length ∧ rs.Nodup ∧ rs.length ≤ 1000) : dDictZip ax ρ s = some (.dT (rs.zip es), s1) := by
  unfold dDictZip
  rw [h]
  show (seqOf x).bind _ = _
  rw [h1]
  show (rowsOf ds).bind _ = _
  rw [h2]
  show (seqOf y).bind _ = _
  rw [h3]
  show (if _ then _ else _) = _
  rw [if_pos h4]
/-- a loop that turns back where something fails -/
theorem loop_all {α : Type} {g : Dg} {b : Ds} {ρ0 : List Sl} {s : Tau} (enc : α → D) (p : α → Bool) (J : List Sl → Prop) : ∀ (ys : List α), (∀ y ∈ ys, ∀ ρ, J ρ → ∃ ρ1, g (enc y) ρ = some ρ1 ∧ (p y = true → ∃ ρ2, b ρ1 s = some (.nx ρ2, s) ∧ J ρ2) ∧ (p y = false → b ρ1 s = some (.rt (.bl false) false, s))) →
    ∀ ρ, J ρ → (ys.all p = true → ∃ ρ2, dLoop g b (ys.map enc) ρ s = some (.nx ρ2, s) ∧ J ρ2) ∧ (ys.all p = false → dLoop g b (ys.map enc) ρ s = some (.rt (.bl false) false, s))
  | [], _, ρ, hj => ⟨fun _ => ⟨ρ, rfl, hj⟩, fun h => absurd h (by simp)⟩
  | y :: ys, h, ρ, hj => by
    obtain ⟨ρ1, h1, h2, h3⟩ := h y List.mem_cons_self ρ hj
    have step : dLoop g b ((y :: ys).map enc) ρ s = (b ρ1 s).bind fun p => match p.1 with
      | .nx ρ2 => dLoop g b (ys.map enc) ρ2 p.2
      | .ct ρ2 => dLoop g b (ys.map enc) ρ2 p.2
      | .bk ρ2 => some (.nx ρ2, p.2)
      | .rt d o => some (.rt d o, p.2) := by
      show ((g (enc y) ρ).bind fun ρ1 => (b ρ1 s).bind fun p => match p.1 with
        | .nx ρ2 => dLoop g b (ys.map enc) ρ2 p.2
        | .ct ρ2 => dLoop g b (ys.map enc) ρ2 p.2
        | .bk ρ2 => some (.nx ρ2, p.2)
        | .rt d o => some (.rt d o, p.2)) = _
      rw [h1]; rfl
    rw [step, List.all_cons]
    cases q : p y with
    | true =>
      obtain ⟨ρ2, h4, h5⟩ := h2 q
      obtain ⟨h6, h7⟩ := loop_all (ρ0 := ρ0) (s := s) enc p J ys (fun z hz => h z (List.mem_cons_of_mem _ hz)) ρ2 h5
      rw [h4, Bool.true_and]
      exact ⟨h6, h7⟩
    | false =>
      rw [h3 q, Bool.false_and]
      exact ⟨fun z => absurd z Bool.false_ne_true, fun _ => rfl⟩
/-- for .. : if not ..: return False; then return True -/
theorem for_all {α : Type} {it : Da} {g : Dg} {b : Ds} {ρ : List Sl} {s : Tau} (enc : α → D) (p : α → Bool) (J : List Sl → Prop) (ys : List α) (hi : it ρ s = some (ys.map enc, s)) (hj : J ρ)
    (h : ∀ y ∈ ys, ∀ ρ, J ρ → ∃ ρ1, g (enc y) ρ = some ρ1 ∧ (p y = true → ∃ ρ2, b ρ1 s = some (.nx ρ2, s) ∧ J ρ2) ∧ (p y = false → b ρ1 s = some (.rt (.bl false) false, s))) :
    dSeq (dFor it g b) (dRet (dC (.bl true))) ρ s = some (.rt (.bl (ys.all p)) false, s) := by
  obtain ⟨h1, h2⟩ := loop_all (ρ0 := ρ) (s := s) enc p J ys h ρ hj
  have e : dFor it g b ρ s = dLoop g b (ys.map enc) ρ s := by
    unfold dFor
    rw [hi]; rfl
  cases q : ys.all p with
  | true =>
    obtain ⟨ρ2, h3, _⟩ := h1 q
    exact seq_nx (e.trans h3) (ret_of rfl)
  | false => exact seq_rt (e.trans (h2 q))
theorem all_not {α : Type} (p q : α → Bool) : ∀ xs : List α, (xs.filter p).all q = !(xs.any fun x => p x && !q x)
  | [] => rfl
  | x :: xs => by
    have ih := all_not p q xs
    rw [List.filter_cons, List.any_cons]
    cases h : p x with
    | true => rw [if_pos rfl, List.all_cons, ih]; cases q x <;> simp
    | false => rw [if_neg Bool.false_ne_true, ih]; simp
theorem all_not1 {α : Type} (q : α → Bool) : ∀ xs : List α, xs.all q = !(xs.any fun x => !q x)
  | [] => rfl
  | x :: xs => by
    rw [List.all_cons, List.any_cons, all_not1 q xs]
    cases q x <;> simp
theorem init_rng (n : Nat) : slD (.lst ((List.range n).map fun i : Nat => D.int i)) none (some (-1)) = some (.lst ((List.range (n - 1)).map fun i : Nat => D.int i)) := by
  show some (D.lst (cutL _ none (some (-1)))) = _
  have e : cutL ((List.range n).map fun i : Nat => D.int i) none (some (-1)) = cutL ((List.range n).map fun i : Nat => D.int i) none (some ((n - 1 : Nat) : Int)) := by
    cases n with
    | zero => rfl
    | succ n =>
      have q : HT.sIx (n + 1) (n + 1) (some (-1)) = HT.sIx (n + 1) (n + 1) (some ((n + 1 - 1 : Nat) : Int)) := by
        rw [HT.sIx_nat]
        show (if (-1 : Int) < 0 then ((-1 : Int) + ((n + 1 : Nat) : Int)).toNat else min (-1 : Int).toNat (n + 1)) = _
        rw [if_pos (by decide)]
        omega
      unfold cutL
      rw [List.length_map, List.length_range, q]
  rw [e, cut_to, ← List.map_take, List.take_range, Nat.min_eq_left (Nat.sub_le _ _)]
theorem len_row' (bs : List Bool) : lenD [row bs] = some (.int (bs.length : Nat)) := len_row bs
end Dl
end
section
set_option Elab.async false
set_option linter.all false
set_option maxRecDepth 100000
set_option maxHeartbeats 4000000
open PySem L2 Dl
namespace Rk03
def l_WAYS : List Str := ["allow over", "always allow", "always deny", "both ends", "deny over", "first", "island", "last", "most or allow", "most or deny", "most or first", "most or last", "odd"]
def c_WAYS : D := .ktp (l_WAYS.map D.str)
def l_PROMISES : List Str := ["agreed", "even", "growing", "heard", "kept", "mixed", "most", "order", "parts", "repeat"]
def c_PROMISES : D := .ktp (l_PROMISES.map D.str)
def l_KEPT : List (Str × List Str) := [("allow over", ["agreed", "growing", "heard", "kept", "order", "parts", "repeat"]), ("always allow", ["growing", "kept", "order", "parts", "repeat"]), ("always deny", ["growing", "kept", "order", "parts", "repeat"]), ("both ends", ["agreed", "growing", "kept", "mixed", "repeat"]), ("deny over", ["agreed", "growing", "heard", "kept", "order", "parts", "repeat"]), ("first", ["agreed", "even", "growing", "kept", "mixed", "parts", "repeat"]), ("island", ["agreed", "heard", "mixed", "repeat"]), ("last", ["agreed", "even", "growing", "kept", "mixed", "parts", "repeat"]), ("most or allow", ["agreed", "growing", "heard", "kept", "mixed", "most", "order"]), ("most or deny", ["agreed", "growing", "heard", "kept", "mixed", "most", "order"]), ("most or first", ["agreed", "even", "growing", "kept", "mixed", "most"]), ("most or last", ["agreed", "even", "growing", "kept", "mixed", "most"]), ("odd", ["heard", "mixed", "order", "parts"])]
def l_CLASHES : List (List Str) := [["even", "heard"], ["even", "order"], ["most", "parts"], ["most", "repeat"], ["mixed", "order", "repeat"], ["agreed", "heard", "mixed", "parts"], ["agreed", "mixed", "order", "parts"], ["growing", "heard", "mixed", "parts"], ["growing", "heard", "mixed", "repeat"], ["growing", "mixed", "order", "parts"], ["heard", "kept", "mixed", "parts"], ["heard", "kept", "mixed", "repeat"], ["heard", "mixed", "parts", "repeat"], ["kept", "mixed", "order", "parts"]]
def c_CLASHES : D := .ktp (l_CLASHES.map fun y => .ktp (y.map D.str))
def d_need_promises : Ds := (dSeq (dIfS (dOr (dNot (dB (dUn (isiD "tuple") (dVar 0)))) (dNot (dB (dCallB allD (dCons (dLc (dItT (dVar 0)) (gdName 1) dYes (dAndV (dUn (isiD "str") (dVar 1)) (dOp inD (dVar 1) (dC c_PROMISES))) [1]) dNil))))) dNever dNext)
  (dIfS (dNot (dB (dCallB allD (dCons (dLc (dZipT (dCons (dVar 0) (dCons (dSl slD (dVar 0) (dSome (dC (.int 1))) dNone) dNil))) (gdTup 2 (gdCons (gdName 1) (gdCons (gdName 2) gdNil))) dYes (dOp ltA (dVar 1) (dVar 2)) [1, 2]) dNil)))) dNever dNext))
def f_need_promises : Fn := fnD 3 d_need_promises
def d_keepers_of : Ds := (dRet (dLc (dItT (dC c_WAYS)) (gdName 1) (dB (dCallB allD (dCons (dLc (dItT (dVar 0)) (gdName 2) dYes (dOp inD (dVar 2) (dUn (kgetD l_KEPT) (dVar 1))) [2]) dNil))) (dVar 1) [1]))
def f_keepers_of : Fn := fnD 3 d_keepers_of
def d_can_hold : Ds := (dSeq (dDrop (dCall f_need_promises (dCons (dVar 0) dNil)))
  (dRet (dOp neD (dCall f_keepers_of (dCons (dVar 0) dNil)) (dLst dNil))))
def f_can_hold : Fn := fnD 1 d_can_hold
def d_keepers : Ds := (dSeq (dDrop (dCall f_need_promises (dCons (dVar 0) dNil)))
  (dRet (dCallB tupleD (dCons (dCall f_keepers_of (dCons (dVar 0) dNil)) dNil))))
def f_keepers : Fn := fnD 1 d_keepers
def d_least_clashes : Ds := (dRet (dC c_CLASHES))
def f_least_clashes : Fn := fnD 0 d_least_clashes
def d_clashes : Ds := (dSeq (dDrop (dCall f_need_promises (dCons (dVar 0) dNil)))
  (dRet (dCallB tupleD (dCons (dLc (dItT (dC c_CLASHES)) (gdName 1) (dB (dCallB allD (dCons (dLc (dItT (dVar 1)) (gdName 2) dYes (dOp inD (dVar 2) (dVar 0)) [2]) dNil))) (dVar 1) [1]) dNil))))
def f_clashes : Fn := fnD 3 d_clashes
def d_is_within : Ds := (dRet (dCallB allD (dCons (dLc (dItT (dVar 0)) (gdName 2) dYes (dOp inD (dVar 2) (dVar 1)) [2]) dNil)))
def f_is_within : Fn := fnD 3 d_is_within
def d_greatest_sets : Ds := (dSeq (dAsg (dSortSet (dLc (dItT (dC c_WAYS)) (gdName 1) dYes (dUn (kgetD l_KEPT) (dVar 1)) [1])) (gdName 0))
  (dRet (dCallB tupleD (dCons (dLc (dItL (dVar 0)) (gdName 2) (dNot (dB (dCallB anyD (dCons (dLc (dItL (dVar 0)) (gdName 3) dYes (dAndV (dOp neD (dVar 2) (dVar 3)) (dCall f_is_within (dCons (dVar 2) (dCons (dVar 3) dNil)))) [3]) dNil)))) (dVar 2) [2]) dNil))))
def f_greatest_sets : Fn := fnD 4 d_greatest_sets
def d_can_add : Ds := (dSeq (dDrop (dCall f_need_promises (dCons (dVar 0) dNil)))
  (dSeq (dAsg (dLc (dItT (dC c_PROMISES)) (gdName 2) (dB (dOp ninD (dVar 2) (dVar 0))) (dVar 2) [2]) (gdName 1))
  (dRet (dCallB tupleD (dCons (dLc (dItL (dVar 1)) (gdName 2) (dB (dOp neD (dCall f_keepers_of (dCons (dTup (dStar (dVar 0) (dCons (dVar 2) dNil))) dNil)) (dLst dNil))) (dVar 2) [2]) dNil)))))
def f_can_add : Fn := fnD 3 d_can_add
def d__law_taken : Ds := (dSeq (dIfS (dB (dOp gtD (dRw 0 3) (dC (.int 0)))) (dSeq (dAsg (dOp modD (dCallB intD (dCons (dRw 0 3) dNil)) (dVar 1)) (gdName 2))
  (dSeq (dRwSet 0 3 (dOp fdivD (dRw 0 3) (dVar 1)))
  (dRet (dVar 2)))) dNext)
  (dSeq (dRwSet 0 1 (dOp addD (dRw 0 1) (dC (.int 1))))
  (dSeq (dIfS (dB (dOp gtD (dRw 0 1) (dCallB lenD (dCons (dRw 0 0) dNil)))) (dSeq (dRwSet 0 2 (dOp modD (dCallB intD (dCons (dOp addD (dOp mulD (dRw 0 2) (dC (.int 48271))) (dC (.int 11))) dNil)) (dC (.int 2147483647))))
  (dRet (dOp modD (dCallB intD (dCons (dOp fdivD (dRw 0 2) (dC (.int 7))) dNil)) (dVar 1)))) dNext)
  (dSeq (dAsg (dOp ixD (dRw 0 0) (dOp subD (dRw 0 1) (dC (.int 1)))) (gdName 3))
  (dSeq (dRwSet 0 2 (dOp modD (dCallB intD (dCons (dOp addD (dOp addD (dOp mulD (dRw 0 2) (dC (.int 48271))) (dVar 3)) (dC (.int 11))) dNil)) (dC (.int 2147483647))))
  (dSeq (dIfS (dB (dOp geD (dVar 3) (dOp powD (dC (.int 10)) (dC (.int 18))))) (dRwSet 0 3 (dOp fdivD (dVar 3) (dVar 1))) dNext)
  (dRet (dOp modD (dCallB intD (dCons (dVar 3) dNil)) (dVar 1)))))))))
def f__law_taken : Fn := fnD 4 d__law_taken
def d__law_pick : Ds := (dRet (dOp ixD (dVar 1) (dCall f__law_taken (dCons (dVar 0) (dCons (dCallB lenD (dCons (dVar 1) dNil)) dNil)))))
def f__law_pick : Fn := fnD 2 d__law_pick
def d__law_alike (fx : Fn) : Ds := (dSeq (dIfS (dB (dUn (isi2D "tuple" "list") (dVar 1))) (dSeq (dIfS (dOr (dNot (dB (dUn (isi2D "tuple" "list") (dVar 0)))) (dB (dOp neD (dUn (isiD "list") (dVar 0)) (dUn (isiD "list") (dVar 1))))) (dRet (dC (.bl false))) dNext)
  (dSeq (dIfS (dB (dOp neD (dCallB lenD (dCons (dVar 0) dNil)) (dCallB lenD (dCons (dVar 1) dNil)))) (dRet (dC (.bl false))) dNext)
  (dRet (dOp eqD (dLc (dRng1 (dCons (dCallB lenD (dCons (dVar 1) dNil)) dNil)) (gdName 2) (dNot (dB (dCall fx (dCons (dOp ixD (dVar 0) (dVar 2)) (dCons (dOp ixD (dVar 1) (dVar 2)) dNil))))) (dVar 2) [2]) (dLst dNil))))) dNext)
  (dSeq (dIfS (dOr (dB (dUn isN (dVar 1))) (dB (dUn (isiD "str") (dVar 1)))) (dRet (dAndV (dOp eqD (dVar 0) (dVar 1)) (dOp eqD (dUn (isiD "str") (dVar 0)) (dUn (isiD "str") (dVar 1))))) dNext)
  (dRet (dAndV (dUn (isiD "int") (dVar 0)) (dAndV (dOp eqD (dUn (isiD "bool") (dVar 0)) (dUn (isiD "bool") (dVar 1))) (dOp eqD (dVar 0) (dVar 1)))))))
def f__law_alike : Nat → Fn
  | 0 => fnD 3 dNever
  | n + 1 => fnD 3 (d__law_alike (f__law_alike n))
def d__law_is : Ds := (dRet (dAndV (dUn (isiD "bool") (dVar 0)) (dOp eqD (dVar 0) (dVar 1))))
def f__law_is : Fn := fnD 2 d__law_is
def d__law_ways : Ds := (dRet (dLst (dCons (dC (.str "allow over")) (dCons (dC (.str "always allow")) (dCons (dC (.str "always deny")) (dCons (dC (.str "both ends")) (dCons (dC (.str "deny over")) (dCons (dC (.str "first")) (dCons (dC (.str "island")) (dCons (dC (.str "last")) (dCons (dC (.str "most or allow")) (dCons (dC (.str "most or deny")) (dCons (dC (.str "most or first")) (dCons (dC (.str "most or last")) (dCons (dC (.str "odd")) dNil)))))))))))))))
def f__law_ways : Fn := fnD 0 d__law_ways
def d__law_promises : Ds := (dRet (dLst (dCons (dC (.str "agreed")) (dCons (dC (.str "even")) (dCons (dC (.str "growing")) (dCons (dC (.str "heard")) (dCons (dC (.str "kept")) (dCons (dC (.str "mixed")) (dCons (dC (.str "most")) (dCons (dC (.str "order")) (dCons (dC (.str "parts")) (dCons (dC (.str "repeat")) dNil))))))))))))
def f__law_promises : Fn := fnD 0 d__law_promises
def d__law_keeps : Ds := (dSeq (dOwn (dDisp (dpCons (dC (.str "odd")) (dC (.str "heard mixed order parts")) (dpCons (dC (.str "island")) (dC (.str "agreed heard mixed repeat")) (dpCons (dC (.str "both ends")) (dC (.str "agreed growing kept mixed repeat")) dpNil)))) 1)
  (dSeq (dFor (dItL (dLst (dCons (dC (.str "first")) (dCons (dC (.str "last")) dNil)))) (gdName 2) (dDPut 1 (dVar 2) (dC (.str "agreed even growing kept mixed parts repeat"))))
  (dSeq (dFor (dItL (dLst (dCons (dC (.str "allow")) (dCons (dC (.str "deny")) dNil)))) (gdName 2) (dSeq (dDPut 1 (dOp addD (dVar 2) (dC (.str " over"))) (dC (.str "agreed growing heard kept order parts repeat")))
  (dSeq (dDPut 1 (dOp addD (dC (.str "always ")) (dVar 2)) (dC (.str "growing kept order parts repeat")))
  (dDPut 1 (dOp addD (dC (.str "most or ")) (dVar 2)) (dC (.str "agreed growing heard kept mixed most order"))))))
  (dSeq (dFor (dItL (dLst (dCons (dC (.str "first")) (dCons (dC (.str "last")) dNil)))) (gdName 2) (dDPut 1 (dOp addD (dC (.str "most or ")) (dVar 2)) (dC (.str "agreed even growing kept mixed most"))))
  (dRet (dMethS splitSD (dgetOD 1 (dVar 0)) (dCons (dC (.str " ")) dNil)))))))
def f__law_keeps : Fn := fnD 3 d__law_keeps
def d__law_words : Ds := (dRet (dCallB tupleD (dCons (dLc (dItL (dCall f__law_promises dNil)) (gdName 2) (dB (dOp eqD (dCall f__law_taken (dCons (dVar 0) (dCons (dVar 1) dNil))) (dC (.int 0)))) (dVar 2) [2]) dNil)))
def f__law_words : Fn := fnD 3 d__law_words
def d__law_clashes : Ds := (dSeq (dAsg (dLst (dCons (dC (.str "even heard")) (dCons (dC (.str "even order")) (dCons (dC (.str "most parts")) (dCons (dC (.str "most repeat")) (dCons (dC (.str "mixed order repeat")) (dCons (dC (.str "agreed heard mixed parts")) (dCons (dC (.str "agreed mixed order parts")) dNil)))))))) (gdName 0))
  (dSeq (dAsg (dOp addD (dVar 0) (dLst (dCons (dC (.str "growing heard mixed parts")) (dCons (dC (.str "growing heard mixed repeat")) (dCons (dC (.str "growing mixed order parts")) (dCons (dC (.str "heard kept mixed parts")) dNil)))))) (gdName 0))
  (dRet (dLc (dItL (dOp addD (dVar 0) (dLst (dCons (dC (.str "heard kept mixed repeat")) (dCons (dC (.str "heard mixed parts repeat")) (dCons (dC (.str "kept mixed order parts")) dNil)))))) (gdName 1) dYes (dCallB tupleD (dCons (dMethS splitSD (dVar 1) (dCons (dC (.str " ")) dNil)) dNil)) [1]))))
def f__law_clashes : Fn := fnD 2 d__law_clashes
def d__law_goes : Ds := (dSeq (dFor (dItL (dCall f__law_ways dNil)) (gdName 1) (dIfS (dB (dOp eqD (dLc (dItT (dVar 0)) (gdName 2) (dB (dOp ninD (dVar 2) (dCall f__law_keeps (dCons (dVar 1) dNil)))) (dVar 2) [2]) (dLst dNil))) (dRet (dC (.bl true))) dNext))
  (dRet (dC (.bl false))))
def f__law_goes : Fn := fnD 3 d__law_goes
def d_law : Ds := (dSeq (dFor (dRng1 (dCons (dC (.int 4)) dNil)) (gdName 2) (dSeq (dAsg (dCall f__law_words (dCons (dVar 1) (dCons (dCall f__law_pick (dCons (dVar 1) (dCons (dLst (dCons (dC (.int 2)) (dCons (dC (.int 3)) (dCons (dC (.int 4)) dNil)))) dNil))) dNil))) (gdName 3))
  (dSeq (dAsg (dLc (dItL (dCall f__law_ways dNil)) (gdName 5) (dB (dOp eqD (dLc (dItT (dVar 3)) (gdName 6) (dB (dOp ninD (dVar 6) (dCall f__law_keeps (dCons (dVar 5) dNil)))) (dVar 6) [6]) (dLst dNil))) (dVar 5) [5]) (gdName 4))
  (dSeq (dAsg (dLc (dItL (dCall f__law_clashes dNil)) (gdName 8) (dB (dOp eqD (dLc (dItT (dVar 8)) (gdName 6) (dB (dOp ninD (dVar 6) (dVar 3))) (dVar 6) [6]) (dLst dNil))) (dVar 8) [8]) (gdName 7))
  (dSeq (dIfS (dB (dOp neD (dOp eqD (dVar 4) (dLst dNil)) (dOp neD (dVar 7) (dLst dNil)))) (dRet (dC (.bl false))) dNext)
  (dSeq (dIfS (dOr (dNot (dB (dCall (f__law_alike 4) (dCons (dCall f_keepers (dCons (dVar 3) dNil)) (dCons (dCallB tupleD (dCons (dVar 4) dNil)) dNil))))) (dNot (dB (dCall f__law_is (dCons (dCall f_can_hold (dCons (dVar 3) dNil)) (dCons (dOp neD (dVar 4) (dLst dNil)) dNil)))))) (dRet (dC (.bl false))) dNext)
  (dSeq (dAsg (dLc (dItL (dCall f__law_promises dNil)) (gdName 6) (dB (dOp ninD (dVar 6) (dVar 3))) (dVar 6) [6]) (gdName 9))
  (dIfS (dOr (dNot (dB (dCall (f__law_alike 4) (dCons (dCall f_clashes (dCons (dVar 3) dNil)) (dCons (dCallB tupleD (dCons (dVar 7) dNil)) dNil))))) (dNot (dB (dCall (f__law_alike 4) (dCons (dCall f_can_add (dCons (dVar 3) dNil)) (dCons (dCallB tupleD (dCons (dLc (dItL (dVar 9)) (gdName 6) (dB (dCall f__law_goes (dCons (dOp addD (dVar 3) (dTup (dCons (dVar 6) dNil))) dNil))) (dVar 6) [6]) dNil)) dNil)))))) (dRet (dC (.bl false))) dNext))))))))
  (dSeq (dIfS (dNot (dB (dCall (f__law_alike 4) (dCons (dCall f_least_clashes dNil) (dCons (dCallB tupleD (dCons (dCall f__law_clashes dNil) dNil)) dNil))))) (dRet (dC (.bl false))) dNext)
  (dSeq (dAsg (dLst (dCons (dC (.str "deny over")) (dCons (dC (.str "first")) (dCons (dC (.str "island")) (dCons (dC (.str "most or deny")) (dCons (dC (.str "most or first")) (dCons (dC (.str "odd")) dNil))))))) (gdName 8))
  (dSeq (dIfS (dNot (dB (dCall (f__law_alike 4) (dCons (dCall f_greatest_sets dNil) (dCons (dCallB tupleD (dCons (dCallB sortedRD (dCons (dLc (dItL (dVar 8)) (gdName 5) dYes (dCallB tupleD (dCons (dCall f__law_keeps (dCons (dVar 5) dNil)) dNil)) [5]) dNil)) dNil)) dNil))))) (dRet (dC (.bl false))) dNext)
  (dSeq (dAsg (dCall f__law_pick (dCons (dVar 1) (dCons (dCall f__law_clashes dNil) dNil))) (gdName 10))
  (dSeq (dAsg (dCall f__law_taken (dCons (dVar 1) (dCons (dCallB lenD (dCons (dVar 10) dNil)) dNil))) (gdName 11))
  (dRet (dAndV (dOp isBD (dCall f_can_hold (dCons (dVar 10) dNil)) (dC (.bl false))) (dOp isBD (dCall f_can_hold (dCons (dOp addD (dSl slD (dVar 10) dNone (dSome (dVar 11))) (dSl slD (dVar 10) (dSome (dOp addD (dVar 11) (dC (.int 1)))) dNone)) dNil)) (dC (.bl true)))))))))))
end Rk03
end
section
set_option Elab.async false
set_option linter.all false
set_option maxRecDepth 100000
set_option maxHeartbeats 4000000
open PySem L2 Dl PyProof.Rows
namespace Rk03
/-! the draws -/
theorem taken_ok (s : Tau) (hs : 0 ≤ s.a) (m : Int) (h1 : 0 < m) (h2 : m < 1073741824) : ∃ d s', f__law_taken [.rw, .int m] s = some ((.int d, false), s') ∧ 0 ≤ d ∧ d < m ∧ 0 ≤ s'.a := by
  obtain ⟨a, b, c, ns⟩ := s
  have e0 : Int.emod c m < m := Int.emod_lt_of_pos _ h1
  have nz : m ≠ 0 := by omega
  by_cases hc : 0 < c
  · refine ⟨c % m, ⟨a, b, c / m, ns⟩, ?_, Int.emod_nonneg _ nz, Int.emod_lt_of_pos _ h1, hs⟩
    refine fn_rt (seq_ifT (s1 := ⟨a, b, c, ns⟩) ?_ ?_)
    · simp only [fnD, dSeq, dIfS, dRet, dAsg, dPar, dDrop, dNext, dVar, dC, dOp, dUn, dCallB, dCall, dMethS, dNil, dCons, dB, dNot, dAnd, dOr, dAndV, dOrV, dNotV, dIf, dTup, dLst, dSl, dNone, dSome, dChain, dDisp, dpCons, dpNil, dStar, gdName, gdTup, gdCons, gdNil, dRw, dRwSet, Tau.put, Dl.intD, modD, fdivD, subD, negD, ltD, gtD, geD, leD, i2, eqD_int, neD_int, eqD_bl, neD_bl, D.asT, D.its, isiD, isi2D, D.ty, isN, isNB, Option.bind_some, Option.bind_none, Option.map_some, Option.map_none, List.map_cons, List.map_nil, List.cons_append, List.nil_append, List.append_nil, List.length_cons, List.length_nil, List.getElem?_cons_zero, List.getElem?_cons_succ, List.replicate, List.set_cons_zero, List.set_cons_succ, Nat.sub_self, Nat.reduceAdd, Nat.reduceSub, Nat.add_sub_cancel, if_true, if_false, decide_true, decide_false, Bool.not_true, Bool.not_false, Bool.true_and, Bool.false_and, Bool.or_true, Bool.true_or, Bool.or_false, Bool.false_or, Bool.and_true, Bool.and_false, ite_true, ite_false, reduceIte, Bool.false_eq_true, hc]
    · simp only [fnD, dSeq, dIfS, dRet, dAsg, dPar, dDrop, dNext, dVar, dC, dOp, dUn, dCallB, dCall, dMethS, dNil, dCons, dB, dNot, dAnd, dOr, dAndV, dOrV, dNotV, dIf, dTup, dLst, dSl, dNone, dSome, dChain, dDisp, dpCons, dpNil, dStar, gdName, gdTup, gdCons, gdNil, dRw, dRwSet, Tau.put, Dl.intD, modD, fdivD, subD, negD, ltD, gtD, geD, leD, i2, eqD_int, neD_int, eqD_bl, neD_bl, D.asT, D.its, isiD, isi2D, D.ty, isN, isNB, Option.bind_some, Option.bind_none, Option.map_some, Option.map_none, List.map_cons, List.map_nil, List.cons_append, List.nil_append, List.append_nil, List.length_cons, List.length_nil, List.getElem?_cons_zero, List.getElem?_cons_succ, List.replicate, List.set_cons_zero, List.set_cons_succ, Nat.sub_self, Nat.reduceAdd, Nat.reduceSub, Nat.add_sub_cancel, if_true, if_false, decide_true, decide_false, Bool.not_true, Bool.not_false, Bool.true_and, Bool.false_and, Bool.or_true, Bool.true_or, Bool.or_false, Bool.false_or, Bool.and_true, Bool.and_false, ite_true, ite_false, reduceIte, Bool.false_eq_true, h1, h2, and_self]
  · have hs' : 0 ≤ a := hs
    by_cases hl : (ns.length : Int) < a + 1
    · refine ⟨((b * 48271 + 11) % 2147483647 / 7) % m, ⟨a + 1, (b * 48271 + 11) % 2147483647, c, ns⟩, ?_, Int.emod_nonneg _ nz, Int.emod_lt_of_pos _ h1, by show 0 ≤ a + 1; omega⟩
      refine fn_rt (seq_ifF (s1 := ⟨a, b, c, ns⟩) ?_ (seq_nx (ρ1 := [.im .rw, .im (.int m), .un, .un]) (s1 := ⟨a + 1, b, c, ns⟩) ?_ (seq_ifT (s1 := ⟨a + 1, b, c, ns⟩) ?_ ?_)))
      · simp only [fnD, dSeq, dIfS, dRet, dAsg, dPar, dDrop, dNext, dVar, dC, dOp, dUn, dCallB, dCall, dMethS, dNil, dCons, dB, dNot, dAnd, dOr, dAndV, dOrV, dNotV, dIf, dTup, dLst, dSl, dNone, dSome, dChain, dDisp, dpCons, dpNil, dStar, gdName, gdTup, gdCons, gdNil, dRw, dRwSet, Tau.put, Dl.intD, modD, fdivD, subD, negD, ltD, gtD, geD, leD, i2, eqD_int, neD_int, eqD_bl, neD_bl, D.asT, D.its, isiD, isi2D, D.ty, isN, isNB, Option.bind_some, Option.bind_none, Option.map_some, Option.map_none, List.map_cons, List.map_nil, List.cons_append, List.nil_append, List.append_nil, List.length_cons, List.length_nil, List.getElem?_cons_zero, List.getElem?_cons_succ, List.replicate, List.set_cons_zero, List.set_cons_succ, Nat.sub_self, Nat.reduceAdd, Nat.reduceSub, Nat.add_sub_cancel, if_true, if_false, decide_true, decide_false, Bool.not_true, Bool.not_false, Bool.true_and, Bool.false_and, Bool.or_true, Bool.true_or, Bool.or_false, Bool.false_or, Bool.and_true, Bool.and_false, ite_true, ite_false, reduceIte, Bool.false_eq_true, hc]
      · simp only [fnD, dSeq, dIfS, dRet, dAsg, dPar, dDrop, dNext, dVar, dC, dOp, dUn, dCallB, dCall, dMethS, dNil, dCons, dB, dNot, dAnd, dOr, dAndV, dOrV, dNotV, dIf, dTup, dLst, dSl, dNone, dSome, dChain, dDisp, dpCons, dpNil, dStar, gdName, gdTup, gdCons, gdNil, dRw, dRwSet, Tau.put, Dl.intD, modD, fdivD, subD, negD, ltD, gtD, geD, leD, i2, eqD_int, neD_int, eqD_bl, neD_bl, D.asT, D.its, isiD, isi2D, D.ty, isN, isNB, Option.bind_some, Option.bind_none, Option.map_some, Option.map_none, List.map_cons, List.map_nil, List.cons_append, List.nil_append, List.append_nil, List.length_cons, List.length_nil, List.getElem?_cons_zero, List.getElem?_cons_succ, List.replicate, List.set_cons_zero, List.set_cons_succ, Nat.sub_self, Nat.reduceAdd, Nat.reduceSub, Nat.add_sub_cancel, if_true, if_false, decide_true, decide_false, Bool.not_true, Bool.not_false, Bool.true_and, Bool.false_and, Bool.or_true, Bool.true_or, Bool.or_false, Bool.false_or, Bool.and_true, Bool.and_false, ite_true, ite_false, reduceIte, Bool.false_eq_true, addD]
      · simp only [fnD, dSeq, dIfS, dRet, dAsg, dPar, dDrop, dNext, dVar, dC, dOp, dUn, dCallB, dCall, dMethS, dNil, dCons, dB, dNot, dAnd, dOr, dAndV, dOrV, dNotV, dIf, dTup, dLst, dSl, dNone, dSome, dChain, dDisp, dpCons, dpNil, dStar, gdName, gdTup, gdCons, gdNil, dRw, dRwSet, Tau.put, Dl.intD, modD, fdivD, subD, negD, ltD, gtD, geD, leD, i2, eqD_int, neD_int, eqD_bl, neD_bl, D.asT, D.its, isiD, isi2D, D.ty, isN, isNB, Option.bind_some, Option.bind_none, Option.map_some, Option.map_none, List.map_cons, List.map_nil, List.cons_append, List.nil_append, List.append_nil, List.length_cons, List.length_nil, List.getElem?_cons_zero, List.getElem?_cons_succ, List.replicate, List.set_cons_zero, List.set_cons_succ, Nat.sub_self, Nat.reduceAdd, Nat.reduceSub, Nat.add_sub_cancel, if_true, if_false, decide_true, decide_false, Bool.not_true, Bool.not_false, Bool.true_and, Bool.false_and, Bool.or_true, Bool.true_or, Bool.or_false, Bool.false_or, Bool.and_true, Bool.and_false, ite_true, ite_false, reduceIte, Bool.false_eq_true, lenD, hl]
      · simp only [fnD, dSeq, dIfS, dRet, dAsg, dPar, dDrop, dNext, dVar, dC, dOp, dUn, dCallB, dCall, dMethS, dNil, dCons, dB, dNot, dAnd, dOr, dAndV, dOrV, dNotV, dIf, dTup, dLst, dSl, dNone, dSome, dChain, dDisp, dpCons, dpNil, dStar, gdName, gdTup, gdCons, gdNil, dRw, dRwSet, Tau.put, Dl.intD, modD, fdivD, subD, negD, ltD, gtD, geD, leD, i2, eqD_int, neD_int, eqD_bl, neD_bl, D.asT, D.its, isiD, isi2D, D.ty, isN, isNB, Option.bind_some, Option.bind_none, Option.map_some, Option.map_none, List.map_cons, List.map_nil, List.cons_append, List.nil_append, List.append_nil, List.length_cons, List.length_nil, List.getElem?_cons_zero, List.getElem?_cons_succ, List.replicate, List.set_cons_zero, List.set_cons_succ, Nat.sub_self, Nat.reduceAdd, Nat.reduceSub, Nat.add_sub_cancel, if_true, if_false, decide_true, decide_false, Bool.not_true, Bool.not_false, Bool.true_and, Bool.false_and, Bool.or_true, Bool.true_or, Bool.or_false, Bool.false_or, Bool.and_true, Bool.and_false, ite_true, ite_false, reduceIte, Bool.false_eq_true, addD, mulD, mulI, h1, h2]
        simp [h1]
    · have hn : a.toNat < ns.length := by omega
      obtain ⟨q, hq⟩ : ∃ q, ns[a.toNat]? = some q := ⟨_, List.getElem?_eq_getElem hn⟩
      have hix : atI ns (a + 1 - 1) = some q := by
        have e : a + 1 - 1 = a := by omega
        unfold atI ixN
        rw [e, if_pos hs', if_pos (by omega)]
        exact hq
      by_cases h18 : (1000000000000000000 : Int) ≤ q
      · refine ⟨q % m, ⟨a + 1, (b * 48271 + q + 11) % 2147483647, q / m, ns⟩, ?_, Int.emod_nonneg _ nz, Int.emod_lt_of_pos _ h1, by show 0 ≤ a + 1; omega⟩
        refine fn_rt (seq_ifF (s1 := ⟨a, b, c, ns⟩) ?_ (seq_nx (ρ1 := [.im .rw, .im (.int m), .un, .un]) (s1 := ⟨a + 1, b, c, ns⟩) ?_ (seq_ifF (s1 := ⟨a + 1, b, c, ns⟩) ?_ ?_)))
        · simp only [fnD, dSeq, dIfS, dRet, dAsg, dPar, dDrop, dNext, dVar, dC, dOp, dUn, dCallB, dCall, dMethS, dNil, dCons, dB, dNot, dAnd, dOr, dAndV, dOrV, dNotV, dIf, dTup, dLst, dSl, dNone, dSome, dChain, dDisp, dpCons, dpNil, dStar, gdName, gdTup, gdCons, gdNil, dRw, dRwSet, Tau.put, Dl.intD, modD, fdivD, subD, negD, ltD, gtD, geD, leD, i2, eqD_int, neD_int, eqD_bl, neD_bl, D.asT, D.its, isiD, isi2D, D.ty, isN, isNB, Option.bind_some, Option.bind_none, Option.map_some, Option.map_none, List.map_cons, List.map_nil, List.cons_append, List.nil_append, List.append_nil, List.length_cons, List.length_nil, List.getElem?_cons_zero, List.getElem?_cons_succ, List.replicate, List.set_cons_zero, List.set_cons_succ, Nat.sub_self, Nat.reduceAdd, Nat.reduceSub, Nat.add_sub_cancel, if_true, if_false, decide_true, decide_false, Bool.not_true, Bool.not_false, Bool.true_and, Bool.false_and, Bool.or_true, Bool.true_or, Bool.or_false, Bool.false_or, Bool.and_true, Bool.and_false, ite_true, ite_false, reduceIte, Bool.false_eq_true, hc]
        · simp only [fnD, dSeq, dIfS, dRet, dAsg, dPar, dDrop, dNext, dVar, dC, dOp, dUn, dCallB, dCall, dMethS, dNil, dCons, dB, dNot, dAnd, dOr, dAndV, dOrV, dNotV, dIf, dTup, dLst, dSl, dNone, dSome, dChain, dDisp, dpCons, dpNil, dStar, gdName, gdTup, gdCons, gdNil, dRw, dRwSet, Tau.put, Dl.intD, modD, fdivD, subD, negD, ltD, gtD, geD, leD, i2, eqD_int, neD_int, eqD_bl, neD_bl, D.asT, D.its, isiD, isi2D, D.ty, isN, isNB, Option.bind_some, Option.bind_none, Option.map_some, Option.map_none, List.map_cons, List.map_nil, List.cons_append, List.nil_append, List.append_nil, List.length_cons, List.length_nil, List.getElem?_cons_zero, List.getElem?_cons_succ, List.replicate, List.set_cons_zero, List.set_cons_succ, Nat.sub_self, Nat.reduceAdd, Nat.reduceSub, Nat.add_sub_cancel, if_true, if_false, decide_true, decide_false, Bool.not_true, Bool.not_false, Bool.true_and, Bool.false_and, Bool.or_true, Bool.true_or, Bool.or_false, Bool.false_or, Bool.and_true, Bool.and_false, ite_true, ite_false, reduceIte, Bool.false_eq_true, addD]
        · simp only [fnD, dSeq, dIfS, dRet, dAsg, dPar, dDrop, dNext, dVar, dC, dOp, dUn, dCallB, dCall, dMethS, dNil, dCons, dB, dNot, dAnd, dOr, dAndV, dOrV, dNotV, dIf, dTup, dLst, dSl, dNone, dSome, dChain, dDisp, dpCons, dpNil, dStar, gdName, gdTup, gdCons, gdNil, dRw, dRwSet, Tau.put, Dl.intD, modD, fdivD, subD, negD, ltD, gtD, geD, leD, i2, eqD_int, neD_int, eqD_bl, neD_bl, D.asT, D.its, isiD, isi2D, D.ty, isN, isNB, Option.bind_some, Option.bind_none, Option.map_some, Option.map_none, List.map_cons, List.map_nil, List.cons_append, List.nil_append, List.append_nil, List.length_cons, List.length_nil, List.getElem?_cons_zero, List.getElem?_cons_succ, List.replicate, List.set_cons_zero, List.set_cons_succ, Nat.sub_self, Nat.reduceAdd, Nat.reduceSub, Nat.add_sub_cancel, if_true, if_false, decide_true, decide_false, Bool.not_true, Bool.not_false, Bool.true_and, Bool.false_and, Bool.or_true, Bool.true_or, Bool.or_false, Bool.false_or, Bool.and_true, Bool.and_false, ite_true, ite_false, reduceIte, Bool.false_eq_true, lenD, hl]
        · simp only [fnD, dSeq, dIfS, dRet, dAsg, dPar, dDrop, dNext, dVar, dC, dOp, dUn, dCallB, dCall, dMethS, dNil, dCons, dB, dNot, dAnd, dOr, dAndV, dOrV, dNotV, dIf, dTup, dLst, dSl, dNone, dSome, dChain, dDisp, dpCons, dpNil, dStar, gdName, gdTup, gdCons, gdNil, dRw, dRwSet, Tau.put, Dl.intD, modD, fdivD, subD, negD, ltD, gtD, geD, leD, i2, eqD_int, neD_int, eqD_bl, neD_bl, D.asT, D.its, isiD, isi2D, D.ty, isN, isNB, Option.bind_some, Option.bind_none, Option.map_some, Option.map_none, List.map_cons, List.map_nil, List.cons_append, List.nil_append, List.append_nil, List.length_cons, List.length_nil, List.getElem?_cons_zero, List.getElem?_cons_succ, List.replicate, List.set_cons_zero, List.set_cons_succ, Nat.sub_self, Nat.reduceAdd, Nat.reduceSub, Nat.add_sub_cancel, if_true, if_false, decide_true, decide_false, Bool.not_true, Bool.not_false, Bool.true_and, Bool.false_and, Bool.or_true, Bool.true_or, Bool.or_false, Bool.false_or, Bool.and_true, Bool.and_false, ite_true, ite_false, reduceIte, Bool.false_eq_true, addD, mulD, mulI, h1, h2, ixD, hix, powD]
          simp [h18, h1, h2]
      · refine ⟨q % m, ⟨a + 1, (b * 48271 + q + 11) % 2147483647, c, ns⟩, ?_, Int.emod_nonneg _ nz, Int.emod_lt_of_pos _ h1, by show 0 ≤ a + 1; omega⟩
        refine fn_rt (seq_ifF (s1 := ⟨a, b, c, ns⟩) ?_ (seq_nx (ρ1 := [.im .rw, .im (.int m), .un, .un]) (s1 := ⟨a + 1, b, c, ns⟩) ?_ (seq_ifF (s1 := ⟨a + 1, b, c, ns⟩) ?_ ?_)))
        · simp only [fnD, dSeq, dIfS, dRet, dAsg, dPar, dDrop, dNext, dVar, dC, dOp, dUn, dCallB, dCall, dMethS, dNil, dCons, dB, dNot, dAnd, dOr, dAndV, dOrV, dNotV, dIf, dTup, dLst, dSl, dNone, dSome, dChain, dDisp, dpCons, dpNil, dStar, gdName, gdTup, gdCons, gdNil, dRw, dRwSet, Tau.put, Dl.intD, modD, fdivD, subD, negD, ltD, gtD, geD, leD, i2, eqD_int, neD_int, eqD_bl, neD_bl, D.asT, D.its, isiD, isi2D, D.ty, isN, isNB, Option.bind_some, Option.bind_none, Option.map_some, Option.map_none, List.map_cons, List.map_nil, List.cons_append, List.nil_append, List.append_nil, List.length_cons, List.length_nil, List.getElem?_cons_zero, List.getElem?_cons_succ, List.replicate, List.set_cons_zero, List.set_cons_succ, Nat.sub_self, Nat.reduceAdd, Nat.reduceSub, Nat.add_sub_cancel, if_true, if_false, decide_true, decide_false, Bool.not_true, Bool.not_false, Bool.true_and, Bool.false_and, Bool.or_true, Bool.true_or, Bool.or_false, Bool.false_or, Bool.and_true, Bool.and_false, ite_true, ite_false, reduceIte, Bool.false_eq_true, hc]
        · simp only [fnD, dSeq, dIfS, dRet, dAsg, dPar, dDrop, dNext, dVar, dC, dOp, dUn, dCallB, dCall, dMethS, dNil, dCons, dB, dNot, dAnd, dOr, dAndV, dOrV, dNotV, dIf, dTup, dLst, dSl, dNone, dSome, dChain, dDisp, dpCons, dpNil, dStar, gdName, gdTup, gdCons, gdNil, dRw, dRwSet, Tau.put, Dl.intD, modD, fdivD, subD, negD, ltD, gtD, geD, leD, i2, eqD_int, neD_int, eqD_bl, neD_bl, D.asT, D.its, isiD, isi2D, D.ty, isN, isNB, Option.bind_some, Option.bind_none, Option.map_some, Option.map_none, List.map_cons, List.map_nil, List.cons_append, List.nil_append, List.append_nil, List.length_cons, List.length_nil, List.getElem?_cons_zero, List.getElem?_cons_succ, List.replicate, List.set_cons_zero, List.set_cons_succ, Nat.sub_self, Nat.reduceAdd, Nat.reduceSub, Nat.add_sub_cancel, if_true, if_false, decide_true, decide_false, Bool.not_true, Bool.not_false, Bool.true_and, Bool.false_and, Bool.or_true, Bool.true_or, Bool.or_false, Bool.false_or, Bool.and_true, Bool.and_false, ite_true, ite_false, reduceIte, Bool.false_eq_true, addD]
        · simp only [fnD, dSeq, dIfS, dRet, dAsg, dPar, dDrop, dNext, dVar, dC, dOp, dUn, dCallB, dCall, dMethS, dNil, dCons, dB, dNot, dAnd, dOr, dAndV, dOrV, dNotV, dIf, dTup, dLst, dSl, dNone, dSome, dChain, dDisp, dpCons, dpNil, dStar, gdName, gdTup, gdCons, gdNil, dRw, dRwSet, Tau.put, Dl.intD, modD, fdivD, subD, negD, ltD, gtD, geD, leD, i2, eqD_int, neD_int, eqD_bl, neD_bl, D.asT, D.its, isiD, isi2D, D.ty, isN, isNB, Option.bind_some, Option.bind_none, Option.map_some, Option.map_none, List.map_cons, List.map_nil, List.cons_append, List.nil_append, List.append_nil, List.length_cons, List.length_nil, List.getElem?_cons_zero, List.getElem?_cons_succ, List.replicate, List.set_cons_zero, List.set_cons_succ, Nat.sub_self, Nat.reduceAdd, Nat.reduceSub, Nat.add_sub_cancel, if_true, if_false, decide_true, decide_false, Bool.not_true, Bool.not_false, Bool.true_and, Bool.false_and, Bool.or_true, Bool.true_or, Bool.or_false, Bool.false_or, Bool.and_true, Bool.and_false, ite_true, ite_false, reduceIte, Bool.false_eq_true, lenD, hl]
        · simp only [fnD, dSeq, dIfS, dRet, dAsg, dPar, dDrop, dNext, dVar, dC, dOp, dUn, dCallB, dCall, dMethS, dNil, dCons, dB, dNot, dAnd, dOr, dAndV, dOrV, dNotV, dIf, dTup, dLst, dSl, dNone, dSome, dChain, dDisp, dpCons, dpNil, dStar, gdName, gdTup, gdCons, gdNil, dRw, dRwSet, Tau.put, Dl.intD, modD, fdivD, subD, negD, ltD, gtD, geD, leD, i2, eqD_int, neD_int, eqD_bl, neD_bl, D.asT, D.its, isiD, isi2D, D.ty, isN, isNB, Option.bind_some, Option.bind_none, Option.map_some, Option.map_none, List.map_cons, List.map_nil, List.cons_append, List.nil_append, List.append_nil, List.length_cons, List.length_nil, List.getElem?_cons_zero, List.getElem?_cons_succ, List.replicate, List.set_cons_zero, List.set_cons_succ, Nat.sub_self, Nat.reduceAdd, Nat.reduceSub, Nat.add_sub_cancel, if_true, if_false, decide_true, decide_false, Bool.not_true, Bool.not_false, Bool.true_and, Bool.false_and, Bool.or_true, Bool.true_or, Bool.or_false, Bool.false_or, Bool.and_true, Bool.and_false, ite_true, ite_false, reduceIte, Bool.false_eq_true, addD, mulD, mulI, h1, h2, ixD, hix, powD]
          simp [h18, h1, h2]
/-- a pick from a list -/
theorem pick_ok (s : Tau) (hs : 0 ≤ s.a) (xs : List D) (h0 : xs ≠ []) (hl : xs.length ≤ 1000000) : ∃ d s', f__law_pick [.rw, .lst xs] s = some ((d, false), s') ∧ d ∈ xs ∧ 0 ≤ s'.a := by
  have hp : 0 < xs.length := List.length_pos_iff.mpr h0
  obtain ⟨i, s', h1, h2, h3, h4⟩ := taken_ok s hs xs.length (by omega) (by omega)
  have hn : i.toNat < xs.length := by omega
  refine ⟨xs[i.toNat], s', ?_, List.getElem_mem _, h4⟩
  refine fn_rt (ret_of ?_)
  have hix : atI xs i = some xs[i.toNat] := by
    unfold atI ixN
    rw [if_pos h2, if_pos (by omega)]
    exact List.getElem?_eq_getElem hn
  simp only [fnD, dSeq, dIfS, dRet, dAsg, dPar, dDrop, dNext, dVar, dC, dOp, dUn, dCallB, dCall, dMethS, dNil, dCons, dB, dNot, dAnd, dOr, dAndV, dOrV, dNotV, dIf, dTup, dLst, dSl, dNone, dSome, dChain, dDisp, dpCons, dpNil, dStar, gdName, gdTup, gdCons, gdNil, dRw, dRwSet, Tau.put, Dl.intD, modD, fdivD, subD, negD, ltD, gtD, geD, leD, i2, eqD_int, neD_int, eqD_bl, neD_bl, D.asT, D.its, isiD, isi2D, D.ty, isN, isNB, Option.bind_some, Option.bind_none, Option.map_some, Option.map_none, List.map_cons, List.map_nil, List.cons_append, List.nil_append, List.append_nil, List.length_cons, List.length_nil, List.getElem?_cons_zero, List.getElem?_cons_succ, List.replicate, List.set_cons_zero, List.set_cons_succ, Nat.sub_self, Nat.reduceAdd, Nat.reduceSub, Nat.add_sub_cancel, if_true, if_false, decide_true, decide_false, Bool.not_true, Bool.not_false, Bool.true_and, Bool.false_and, Bool.or_true, Bool.true_or, Bool.or_false, Bool.false_or, Bool.and_true, Bool.and_false, ite_true, ite_false, reduceIte, Bool.false_eq_true, lenD, h1, ixD, hix]


/-! alike -/
theorem ty_conv {d : D} {p : PyData} (h : d.conv = some p) : d.ty = some (match p with | .none => "NoneType" | .bool _ => "bool" | .int _ => "int" | .str _ => "str" | .tuple _ => "tuple" | .list _ => "list" | .dict _ => "dict") := by
  cases d with
  | tup xs => obtain ⟨ps, _, rfl⟩ := map_some_of (show (convL xs).map PyData.tuple = some p from h); rfl
  | ktp xs => obtain ⟨ps, _, rfl⟩ := map_some_of (show (convL xs).map PyData.tuple = some p from h); rfl
  | lst xs => obtain ⟨ps, _, rfl⟩ := map_some_of (show (convL xs).map PyData.list = some p from h); rfl
  | _ => first | (cases h; rfl) | cases h
theorem its_conv {d : D} {ps : List PyData} (h : d.conv = some (.tuple ps) ∨ d.conv = some (.list ps)) : ∃ xs, d.its = some xs ∧ convL xs = some ps ∧ lenD [d] = some (.int ps.length) ∧ ∀ i : Nat, ixD d (.int i) = xs[i]? := by
  have key : ∀ xs : List D, convL xs = some ps → ∀ i : Nat, atI xs (i : Int) = xs[i]? := fun xs _ i => by
    unfold atI ixN
    rw [if_pos (by omega)]
    by_cases z : (i : Int) < xs.length
    · rw [if_pos z]; rfl
    · rw [if_neg z, List.getElem?_eq_none (by omega)]; rfl
  cases d with
  | tup xs =>
    obtain ⟨qs, h1, h2⟩ : ∃ qs, convL xs = some qs ∧ PyData.tuple qs = .tuple ps := by
      rcases h with h | h
      · obtain ⟨qs, h1, h2⟩ := map_some_of (show (convL xs).map PyData.tuple = some (.tuple ps) from h); exact ⟨qs, h1, h2⟩
      · obtain ⟨qs, h1, h2⟩ := map_some_of (show (convL xs).map PyData.tuple = some (.list ps) from h); cases h2
    cases h2
    exact ⟨xs, rfl, h1, congrArg (fun n : Nat => some (D.int n)) (convL_len h1), key xs h1⟩
  | ktp xs =>
    obtain ⟨qs, h1, h2⟩ : ∃ qs, convL xs = some qs ∧ PyData.tuple qs = .tuple ps := by
      rcases h with h | h
      · obtain ⟨qs, h1, h2⟩ := map_some_of (show (convL xs).map PyData.tuple = some (.tuple ps) from h); exact ⟨qs, h1, h2⟩
      · obtain ⟨qs, h1, h2⟩ := map_some_of (show (convL xs).map PyData.tuple = some (.list ps) from h); cases h2
    cases h2
    exact ⟨xs, rfl, h1, congrArg (fun n : Nat => some (D.int n)) (convL_len h1), key xs h1⟩
  | lst xs =>
    obtain ⟨qs, h1, h2⟩ : ∃ qs, convL xs = some qs ∧ PyData.list qs = .list ps := by
      rcases h with h | h
      · obtain ⟨qs, h1, h2⟩ := map_some_of (show (convL xs).map PyData.list = some (.tuple ps) from h); cases h2
      · obtain ⟨qs, h1, h2⟩ := map_some_of (show (convL xs).map PyData.list = some (.list ps) from h); exact ⟨qs, h1, h2⟩
    cases h2
    exact ⟨xs, rfl, h1, congrArg (fun n : Nat => some (D.int n)) (convL_len h1), key xs h1⟩
  | _ => rcases h with h | h <;> first | cases h | (exact absurd h (by intro z; cases z))
/-- of sizes that are walked -/
inductive Sm : PyData → Prop
  | none : Sm .none
  | bool (b : Bool) : Sm (.bool b)
  | int (i : Int) : Sm (.int i)
  | str (x : Str) : Sm (.str x)
  | tup {ps : List PyData} : ps.length ≤ 1000000 → (∀ p ∈ ps, Sm p) → Sm (.tuple ps)
  | lst {ps : List PyData} : ps.length ≤ 1000000 → (∀ p ∈ ps, Sm p) → Sm (.list ps)
theorem seq_alike {n : Nat} {x y : D} {ps : List PyData} {s : Tau} (ih : ∀ (x y : D) (p : PyData) (s : Tau), x.conv = some p → y.conv = some p → p.canLay0 = true → p.depth < n → Sm p → f__law_alike n [x, y] s = some ((.bl true, false), s))
    (hx : x.conv = some (.tuple ps) ∧ y.conv = some (.tuple ps) ∨ x.conv = some (.list ps) ∧ y.conv = some (.list ps)) (hl : PyData.canLayAll0 ps = true) (hd : PyData.depthAll ps + 1 < n + 1) (hn : ps.length ≤ 1000000) (hs : ∀ p ∈ ps, Sm p) : f__law_alike (n + 1) [x, y] s = some ((.bl true, false), s) := by
  obtain ⟨xs, _, cx, lx, gx⟩ := its_conv (d := x) (ps := ps) (hx.imp (·.1) (·.1))
  obtain ⟨ys, _, cy, ly, gy⟩ := its_conv (d := y) (ps := ps) (hx.imp (·.2) (·.2))
  have lc : dLc (dRng1 (dCons (dCallB lenD (dCons (dVar 1) dNil)) dNil)) (gdName 2) (dNot (dB (dCall (f__law_alike n) (dCons (dOp ixD (dVar 0) (dVar 2)) (dCons (dOp ixD (dVar 1) (dVar 2)) dNil))))) (dVar 2) [2] [.im x, .im y, .un] s = some (.lst [], s) := by
    have e := lc_map (g := gdName 2) (bt := dNot (dB (dCall (f__law_alike n) (dCons (dOp ixD (dVar 0) (dVar 2)) (dCons (dOp ixD (dVar 1) (dVar 2)) dNil))))) (de := dVar 2) (di := dRng1 (dCons (dCallB lenD (dCons (dVar 1) dNil)) dNil)) (vs := [2]) (ρ := [.im x, .im y, .un]) (s := s) (fun i : Nat => D.int i) (fun _ => false) (fun i : Nat => D.int i) (List.range ps.length)
      (rng1_of (one_of (callB_of (one_of rfl) ly)) hn)
      (by rw [List.length_range]; exact hn)
      (fun i hi => by
        have hi := List.mem_range.mp hi
        obtain ⟨p, hp⟩ : ∃ p, ps[i]? = some p := ⟨_, List.getElem?_eq_getElem hi⟩
        obtain ⟨x1, hx1, hxc⟩ := convL_get cx hp
        obtain ⟨y1, hy1, hyc⟩ := convL_get cy hp
        have e1 := ih x1 y1 p s hxc hyc (canLay_get hl hp) (Nat.lt_of_le_of_lt (depthAll_get (ps := ps) (i := i) hp) (Nat.lt_of_succ_lt_succ hd)) (hs p (List.mem_of_getElem? hp))
        refine ⟨[.im x, .im y, .im (.int i)], rfl, ?_, fun z => by cases z⟩
        have g1 := gx i
        have g2 := gy i
        rw [hx1] at g1
        rw [hy1] at g2
        simp only [fnD, dSeq, dIfS, dRet, dAsg, dPar, dDrop, dNext, dVar, dC, dOp, dUn, dCallB, dCall, dMethS, dNil, dCons, dB, dNot, dAnd, dOr, dAndV, dOrV, dNotV, dIf, dTup, dLst, dSl, dNone, dSome, dChain, dDisp, dpCons, dpNil, dStar, gdName, gdTup, gdCons, gdNil, dRw, dRwSet, Tau.put, Dl.intD, modD, fdivD, subD, negD, ltD, gtD, geD, leD, i2, eqD_int, neD_int, eqD_bl, neD_bl, D.asT, D.its, isiD, isi2D, D.ty, isN, isNB, Option.bind_some, Option.bind_none, Option.map_some, Option.map_none, List.map_cons, List.map_nil, List.cons_append, List.nil_append, List.append_nil, List.length_cons, List.length_nil, List.getElem?_cons_zero, List.getElem?_cons_succ, List.replicate, List.set_cons_zero, List.set_cons_succ, Nat.sub_self, Nat.reduceAdd, Nat.reduceSub, Nat.add_sub_cancel, if_true, if_false, decide_true, decide_false, Bool.not_true, Bool.not_false, Bool.true_and, Bool.false_and, Bool.or_true, Bool.true_or, Bool.or_false, Bool.false_or, Bool.and_true, Bool.and_false, ite_true, ite_false, reduceIte, Bool.false_eq_true, g1, g2, e1])
    rw [e, List.filter_eq_nil_iff.mpr (fun _ _ => by decide)]; rfl
  rcases hx with ⟨h1, h2⟩ | ⟨h1, h2⟩
  · have t1 := ty_conv h1
    have t2 := ty_conv h2
    refine fn_rt (seq_ifT (s1 := s) ?_ (seq_ifF (s1 := s) ?_ (seq_ifF (s1 := s) ?_ (ret_of ?_))))
    · simp only [dOp, dUn, dB, dVar, isi2D, List.map_cons, List.map_nil, List.cons_append, List.nil_append, List.getElem?_cons_succ, List.getElem?_cons_zero, Option.bind_some, Option.map_some, t2]; rfl
    · simp only [dOr, dNot, dOp, dUn, dB, dVar, isiD, isi2D, List.map_cons, List.map_nil, List.cons_append, List.nil_append, List.getElem?_cons_succ, List.getElem?_cons_zero, Option.bind_some, Option.map_some, t1, t2]; rfl
    · simp only [fnD, dSeq, dIfS, dRet, dAsg, dPar, dDrop, dNext, dVar, dC, dOp, dUn, dCallB, dCall, dMethS, dNil, dCons, dB, dNot, dAnd, dOr, dAndV, dOrV, dNotV, dIf, dTup, dLst, dSl, dNone, dSome, dChain, dDisp, dpCons, dpNil, dStar, gdName, gdTup, gdCons, gdNil, dRw, dRwSet, Tau.put, Dl.intD, modD, fdivD, subD, negD, ltD, gtD, geD, leD, i2, eqD_int, neD_int, eqD_bl, neD_bl, D.asT, D.its, isiD, isi2D, D.ty, isN, isNB, Option.bind_some, Option.bind_none, Option.map_some, Option.map_none, List.map_cons, List.map_nil, List.cons_append, List.nil_append, List.append_nil, List.length_cons, List.length_nil, List.getElem?_cons_zero, List.getElem?_cons_succ, List.replicate, List.set_cons_zero, List.set_cons_succ, Nat.sub_self, Nat.reduceAdd, Nat.reduceSub, Nat.add_sub_cancel, if_true, if_false, decide_true, decide_false, Bool.not_true, Bool.not_false, Bool.true_and, Bool.false_and, Bool.or_true, Bool.true_or, Bool.or_false, Bool.false_or, Bool.and_true, Bool.and_false, ite_true, ite_false, reduceIte, Bool.false_eq_true, lx, ly]; simp
    · exact op_of lc rfl rfl
  · have t1 := ty_conv h1
    have t2 := ty_conv h2
    refine fn_rt (seq_ifT (s1 := s) ?_ (seq_ifF (s1 := s) ?_ (seq_ifF (s1 := s) ?_ (ret_of ?_))))
    · simp only [dOp, dUn, dB, dVar, isi2D, List.map_cons, List.map_nil, List.cons_append, List.nil_append, List.getElem?_cons_succ, List.getElem?_cons_zero, Option.bind_some, Option.map_some, t2]; rfl
    · simp only [dOr, dNot, dOp, dUn, dB, dVar, isiD, isi2D, List.map_cons, List.map_nil, List.cons_append, List.nil_append, List.getElem?_cons_succ, List.getElem?_cons_zero, Option.bind_some, Option.map_some, t1, t2]; rfl
    · simp only [fnD, dSeq, dIfS, dRet, dAsg, dPar, dDrop, dNext, dVar, dC, dOp, dUn, dCallB, dCall, dMethS, dNil, dCons, dB, dNot, dAnd, dOr, dAndV, dOrV, dNotV, dIf, dTup, dLst, dSl, dNone, dSome, dChain, dDisp, dpCons, dpNil, dStar, gdName, gdTup, gdCons, gdNil, dRw, dRwSet, Tau.put, Dl.intD, modD, fdivD, subD, negD, ltD, gtD, geD, leD, i2, eqD_int, neD_int, eqD_bl, neD_bl, D.asT, D.its, isiD, isi2D, D.ty, isN, isNB, Option.bind_some, Option.bind_none, Option.map_some, Option.map_none, List.map_cons, List.map_nil, List.cons_append, List.nil_append, List.append_nil, List.length_cons, List.length_nil, List.getElem?_cons_zero, List.getElem?_cons_succ, List.replicate, List.set_cons_zero, List.set_cons_succ, Nat.sub_self, Nat.reduceAdd, Nat.reduceSub, Nat.add_sub_cancel, if_true, if_false, decide_true, decide_false, Bool.not_true, Bool.not_false, Bool.true_and, Bool.false_and, Bool.or_true, Bool.true_or, Bool.or_false, Bool.false_or, Bool.and_true, Bool.and_false, ite_true, ite_false, reduceIte, Bool.false_eq_true, lx, ly]; simp
    · exact op_of lc rfl rfl
def scl : PyData → D
  | .none => .non
  | .bool b => .bl b
  | .int i => .int i
  | .str z => .str z
  | _ => .rw
def isScl : PyData → Bool
  | .none => true
  | .bool _ => true
  | .int _ => true
  | .str _ => true
  | _ => false
theorem scl_eq {d : D} {p : PyData} (h : d.conv = some p) (hp : isScl p = true) : d = scl p := by
  cases d with
  | tup xs => obtain ⟨ps, _, rfl⟩ := map_some_of (show (convL xs).map PyData.tuple = some p from h); cases hp
  | ktp xs => obtain ⟨ps, _, rfl⟩ := map_some_of (show (convL xs).map PyData.tuple = some p from h); cases hp
  | lst xs => obtain ⟨ps, _, rfl⟩ := map_some_of (show (convL xs).map PyData.list = some p from h); cases hp
  | _ => first | (cases h; rfl) | cases h
theorem sc_alike {n : Nat} {x y : D} {p : PyData} {s : Tau} (hx : x.conv = some p) (hy : y.conv = some p) (hl : p.canLay0 = true) (hp : isScl p = true) : f__law_alike (n + 1) [x, y] s = some ((.bl true, false), s) := by
  have hsh : SeqAt.shaped p = true := by
    unfold SeqAt.shaped
    rw [hl]
    cases p <;> first | rfl | cases hp
  have e := eqD_refl hx hy hsh
  have ex := scl_eq hx hp
  have ey := scl_eq hy hp
  subst ex
  subst ey
  cases p with
  | none => exact fn_rt (seq_ifF (s1 := s) rfl (seq_ifT (s1 := s) rfl (ret_of (andVT_of (op_of (x := D.non) (y := D.non) rfl rfl e) rfl))))
  | str z => exact fn_rt (seq_ifF (s1 := s) rfl (seq_ifT (s1 := s) rfl (ret_of (andVT_of (op_of (x := D.str z) (y := D.str z) rfl rfl e) rfl))))
  | int z => exact fn_rt (seq_ifF (s1 := s) rfl (seq_ifF (s1 := s) rfl (ret_of (andVT_of rfl (andVT_of rfl (op_of (x := D.int z) (y := D.int z) rfl rfl e))))))
  | bool z => exact fn_rt (seq_ifF (s1 := s) rfl (seq_ifF (s1 := s) rfl (ret_of (andVT_of rfl (andVT_of rfl (op_of (x := D.bl z) (y := D.bl z) rfl rfl e))))))
  | _ => cases hp
theorem alike_ok : ∀ (n : Nat) (x y : D) (p : PyData) (s : Tau), x.conv = some p → y.conv = some p → p.canLay0 = true → p.depth < n → Sm p → f__law_alike n [x, y] s = some ((.bl true, false), s)
  | 0, _, _, _, _, _, _, _, h, _ => absurd h (Nat.not_lt_zero _)
  | n + 1, x, y, p, s, hx, hy, hl, hd, hs => by
    cases hs with
    | tup h1 h2 => exact seq_alike (alike_ok n) (.inl ⟨hx, hy⟩) hl hd h1 h2
    | lst h1 h2 => exact seq_alike (alike_ok n) (.inr ⟨hx, hy⟩) hl hd h1 h2
    | _ => exact sc_alike hx hy hl rfl
end Rk03
end
section
set_option Elab.async false
set_option linter.all false
set_option maxRecDepth 100000
set_option maxHeartbeats 4000000
open PySem L2 Dl PyProof.Rows
namespace Rk03
theorem needp_ok {w : List Nat} (h : Asc w) (hl : w.length ≤ 1000) (s : Tau) : f_need_promises [wD w] s = some ((.non, false), s) := by
  have l1 := lc_all (g := gdName 1) (de := dAndV (dUn (isiD "str") (dVar 1)) (dOp inD (dVar 1) (dC c_PROMISES))) (di := dItT (dVar 0)) (vs := [1]) (ρ := [.im (wD w), .un, .un]) (s := s) proD (fun _ => D.bl true) w (itT_of rfl rfl) (by omega) (fun p hp => by
    refine ⟨_, rfl, andVT_of rfl (op_of rfl rfl ((in_prs (d := c_PROMISES) (w := List.range 10) rfl (by kernel_rfl) (fun q hq => List.mem_range.mp hq) (h.2 p hp)).trans ?_))⟩
    rw [List.contains_iff_mem.mpr (List.mem_range.mpr (h.2 p hp))])
  have l2 := lc_all (g := gdTup 2 (gdCons (gdName 1) (gdCons (gdName 2) gdNil))) (de := dOp ltA (dVar 1) (dVar 2)) (di := dZipT (dCons (dVar 0) (dCons (dSl slD (dVar 0) (dSome (dC (.int 1))) dNone) dNil))) (vs := [1, 2]) (ρ := [.im (wD w), .un, .un]) (s := s)
    (fun z : Nat × Nat => D.ktp [proD z.1, proD z.2]) (fun _ => D.bl true) (w.zip (w.drop 1)) ((zipT_of (x := wD w) (y := .ktp ((w.map proD).drop 1)) (ds := w.map proD) (es := (w.map proD).drop 1) (cons_of rfl (one_of (sl_of (s2 := s) rfl (some_of rfl) rfl (by
      show some (D.ktp (cutL (w.map proD) (some ((1 : Nat) : Int)) none)) = _
      rw [cut_from])))) rfl rfl).trans (by rw [zipL_map])) (by rw [List.length_zip]; omega) (fun z hz => by
      refine ⟨_, rfl, op_of rfl rfl ?_⟩
      have h1 := zip_lt h.1 z hz
      have h2 := List.of_mem_zip hz
      show some (D.bl (decide ((pr z.1).cps.toList < (pr z.2).cps.toList))) = _
      rw [pr_lt z.1 (h.2 _ h2.1) z.2 (h.2 _ (List.mem_of_mem_drop h2.2)) h1])
  have a1 : allD [.lst (w.map fun _ => D.bl true)] = some (.bl true) := (all_bls (fun _ => true) w).trans (by rw [List.all_eq_true.mpr fun _ _ => rfl])
  have a2 : allD [.lst ((w.zip (w.drop 1)).map fun _ => D.bl true)] = some (.bl true) := (all_bls (fun _ => true) _).trans (by rw [List.all_eq_true.mpr fun _ _ => rfl])
  exact fn_nx (sF (orF_of (s1 := s) rfl (Dl.not_of (b := true) (b_of (callB_of (one_of l1) a1)))) (ifF (s1 := s) (Dl.not_of (b := true) (b_of (callB_of (one_of l2) a2))) rfl))
theorem kget_ok : ∀ i : Nat, i < 13 → kgetD l_KEPT (.str (wy i)) = some (.ktp ((kp i).map proD))
  | 0, _ | 1, _ | 2, _ | 3, _ | 4, _ | 5, _ | 6, _ | 7, _ | 8, _ | 9, _ | 10, _ | 11, _ | 12, _ => by kernel_rfl
  | i + 13, h => absurd h (by omega)
theorem clashes_ok {w : List Nat} (h : Asc w) (hl : w.length ≤ 1000) (s : Tau) : f_clashes [wD w] s = some ((.tup ((cls.filter (inside w)).map fun c => D.ktp (c.map proD)), false), s) := by
  have lc := lc_map (g := gdName 1) (di := dItT (dC c_CLASHES)) (bt := dB (dCallB allD (dCons (dLc (dItT (dVar 1)) (gdName 2) dYes (dOp inD (dVar 2) (dVar 0)) [2]) dNil))) (de := dVar 1) (vs := [1]) (ρ := [.im (wD w), .un, .un]) (s := s)
    (fun c : List Nat => D.ktp (c.map proD)) (inside w) (fun c : List Nat => D.ktp (c.map proD)) cls (itT_of rfl (by kernel_rfl)) (by decide) (fun c hc => by
      have h4 : c.length ≤ 4 := by revert c; decide
      have l2 := lc_all (g := gdName 2) (de := dOp inD (dVar 2) (dVar 0)) (di := dItT (dVar 1)) (vs := [2]) (ρ := [.im (wD w), .im (.ktp (c.map proD)), .un]) (s := s) proD (fun p => D.bl (w.contains p)) c (itT_of rfl rfl) (by omega)
        (fun p hp => ⟨_, rfl, op_of rfl rfl (in_prs (d := wD w) rfl rfl h.2 (cls_ok c hc p hp))⟩)
      exact ⟨_, rfl, b_of (callB_of (one_of l2) (all_bls _ _)), fun _ => rfl⟩)
  exact fn_rt (sN (drop_of (call_of (one_of rfl) (needp_ok h hl s))) (ret_of (callB_of (one_of lc) rfl)))
end Rk03
end
section
set_option Elab.async false
set_option linter.all false
set_option maxRecDepth 100000
set_option maxHeartbeats 4000000
open PySem L2 Dl PyProof.Rows
namespace Rk03
theorem lways_ok (s : Tau) : f__law_ways [] s = some ((.lst ((List.range 13).map fun i => D.str (wy i)), false), s) := by kernel_rfl
theorem lpromises_ok (s : Tau) : f__law_promises [] s = some ((.lst ((List.range 10).map proD), false), s) := by kernel_rfl
theorem lclashes_ok (s : Tau) : f__law_clashes [] s = some ((.lst (cls.map wD), false), s) := by kernel_rfl
theorem lkeeps_ok (s : Tau) : ∀ i : Nat, i < 13 → f__law_keeps [.str (wy i)] s = some ((.lst ((kp i).map proD), false), s)
  | 0, _ | 1, _ | 2, _ | 3, _ | 4, _ | 5, _ | 6, _ | 7, _ | 8, _ | 9, _ | 10, _ | 11, _ | 12, _ => by kernel_rfl
  | i + 13, h => absurd h (by omega)
theorem least_ok (s : Tau) : f_least_clashes [] s = some ((.ktp (cls.map fun c => D.ktp (c.map proD)), false), s) := by kernel_rfl
def gs : List (List Nat) := [[0, 1, 2, 4, 5, 6], [0, 1, 2, 4, 5, 8, 9], [0, 2, 3, 4, 5, 6, 7], [0, 2, 3, 4, 7, 8, 9], [0, 3, 5, 9], [3, 5, 7, 8]]
theorem greatest_ok (s : Tau) : f_greatest_sets [] s = some ((.tup (gs.map fun c => D.ktp (c.map proD)), false), s) := by kernel_rfl
theorem sorted_ok (x0 x1 x2 x3 x4 x5 x6 x7 x9 x10 x11 : Sl) (s : Tau) : dCallB tupleD (dCons (dCallB sortedRD (dCons (dLc (dItL (dVar 8)) (gdName 5) dYes (dCallB tupleD (dCons (dCall f__law_keeps (dCons (dVar 5) dNil)) dNil)) [5]) dNil)) dNil)
    [x0, x1, x2, x3, x4, x5, x6, x7, .im (.lst [.str "deny over", .str "first", .str "island", .str "most or deny", .str "most or first", .str "odd"]), x9, x10, x11] s = some (.tup (gs.map fun c => D.ktp (c.map proD)), s) := by kernel_rfl
/-- what keeps w, of any rows of promises, in whatever kind of tuple -/
theorem keepers_any {w : List Nat} {d : D} (hd : d.asT = some (w.map proD)) (h : ∀ p ∈ w, p < 10) (hl : w.length ≤ 1000) (s : Tau) : f_keepers_of [d] s = some ((.lst (((List.range 13).filter (keeps_ w)).map fun i => D.str (wy i)), false), s) := by
  have lc := lc_map (g := gdName 1) (di := dItT (dC c_WAYS)) (bt := dB (dCallB allD (dCons (dLc (dItT (dVar 0)) (gdName 2) dYes (dOp inD (dVar 2) (dUn (kgetD l_KEPT) (dVar 1))) [2]) dNil))) (de := dVar 1) (vs := [1]) (ρ := [.im d, .un, .un]) (s := s)
    (fun i : Nat => D.str (wy i)) (keeps_ w) (fun i : Nat => D.str (wy i)) (List.range 13) (itT_of rfl (by kernel_rfl)) (by decide) (fun i hi => by
      have hi := List.mem_range.mp hi
      have l2 := lc_all (g := gdName 2) (de := dOp inD (dVar 2) (dUn (kgetD l_KEPT) (dVar 1))) (di := dItT (dVar 0)) (vs := [2]) (ρ := [.im d, .im (.str (wy i)), .un]) (s := s) proD (fun p => D.bl ((kp i).contains p)) w (itT_of rfl hd) (by omega)
        (fun p hp => ⟨_, rfl, op_of rfl (un_of rfl (kget_ok i hi)) (in_prs rfl rfl (kp_ok i hi) (h p hp))⟩)
      exact ⟨_, rfl, b_of (callB_of (one_of l2) (all_bls _ _)), fun _ => rfl⟩)
  exact fn_rt (ret_of lc)
end Rk03
end
section
set_option Elab.async false
set_option linter.all false
set_option maxRecDepth 100000
set_option maxHeartbeats 4000000
open PySem L2 Dl PyProof.Rows
namespace Rk03
/-- a comprehension whose test draws: what is left is what some test leaves -/
theorem lcGo_draw {α : Type} [DecidableEq α] (Inv : Tau → Prop) (enc : α → D) {g : Dg} {bt : Dt} {de : Dn} {ρ : List Sl} : ∀ (ys : List α), ys.Nodup → (∀ y ∈ ys, ∀ t, Inv t → ∃ ρ1 b t', g (enc y) ρ = some ρ1 ∧ bt ρ1 t = some (b, t') ∧ de ρ1 t' = some (enc y, t') ∧ Inv t') →
    ∀ t, Inv t → ∃ f t', lcGo g bt de ρ (ys.map enc) t = some ((ys.filter f).map enc, t') ∧ Inv t'
  | [], _, _, t, ht => ⟨fun _ => true, t, rfl, ht⟩
  | y :: ys, nd, h, t, ht => by
    have n1 := List.nodup_cons.mp nd
    obtain ⟨ρ1, b, t1, h1, h2, h3, h4⟩ := h y List.mem_cons_self t ht
    obtain ⟨f, t2, h5, h6⟩ := lcGo_draw Inv enc ys n1.2 (fun z hz => h z (List.mem_cons_of_mem _ hz)) t1 h4
    refine ⟨fun z => if z = y then b else f z, t2, ?_, h6⟩
    have e : ys.filter (fun z => if z = y then b else f z) = ys.filter f := List.filter_congr fun z hz => if_neg fun e => n1.1 (by rw [← e]; exact hz)
    show (g (enc y) ρ).bind _ = _
    rw [h1]
    show (bt ρ1 t).bind _ = _
    rw [h2]
    show (if b = true then (de ρ1 t1).bind _ else lcGo g bt de ρ (ys.map enc) t1) = _
    cases b with
    | true =>
      rw [if_pos rfl, h3]
      show (lcGo g bt de ρ (ys.map enc) t1).map _ = _
      rw [h5, List.filter_cons_of_pos (by simp), e]; rfl
    | false => rw [if_neg (by simp), h5, List.filter_cons_of_neg (by simp), e]
theorem words_ok (m : Int) (h1 : 1 ≤ m) (h2 : m < 1073741824) (s : Tau) (hs : 0 ≤ s.a) : ∃ f s', f__law_words [.rw, .int m] s = some ((wD ((List.range 10).filter f), false), s') ∧ 0 ≤ s'.a := by
  obtain ⟨f, s1, e1, e2⟩ := lcGo_draw (fun t => 0 ≤ t.a) proD (g := gdName 2) (bt := dB (dOp eqD (dCall f__law_taken (dCons (dVar 0) (dCons (dVar 1) dNil))) (dC (.int 0)))) (de := dVar 2) (ρ := [.im .rw, .im (.int m), .un]) (List.range 10) List.nodup_range (fun p hp t ht => by
    obtain ⟨k, t1, q1, q2, q3, q4⟩ := taken_ok t ht m h1 h2
    have tk : dCall f__law_taken (dCons (dVar 0) (dCons (dVar 1) dNil)) [.im .rw, .im (.int m), .im (proD p)] t = some (.int k, t1) := call_of (cons_of rfl (one_of rfl)) q1
    by_cases k0 : k = 0
    · exact ⟨_, true, t1, rfl, b_of (op_of tk rfl (by rw [k0]; exact eq_int_self 0)), rfl, q4⟩
    · exact ⟨_, false, t1, rfl, b_of (op_of (f := eqD) tk (db := dC (.int 0)) rfl (eq_int_ne k0)), rfl, q4⟩) s hs
  have lc : dLc (dItL (dCall f__law_promises dNil)) (gdName 2) (dB (dOp eqD (dCall f__law_taken (dCons (dVar 0) (dCons (dVar 1) dNil))) (dC (.int 0)))) (dVar 2) [2] [.im .rw, .im (.int m), .un] s = some (.lst (((List.range 10).filter f).map proD), s1) := by
    unfold dLc
    rw [itL_of (call_of rfl (lpromises_ok s))]
    show (if ((List.range 10).map proD).length ≤ 1000000 then (lcGo _ _ _ _ ((List.range 10).map proD) s).map (fun r => (D.lst r.1, r.2)) else none) = _
    rw [if_pos (by decide)]
    show (lcGo (gdName 2) _ _ [.im .rw, .im (.int m), .un] ((List.range 10).map proD) s).map _ = _
    rw [e1]; rfl
  exact ⟨f, s1, fn_rt (ret_of (callB_of (one_of lc) rfl)), e2⟩
/-- told facts of the sets -/
theorem torn_none0 : ((rb 10).all fun m => (cls.any fun c => c.all fun p => (pick m).contains p) == !((List.range 13).any (keeps_ (pick m)))) = true := by decide +kernel
theorem torn_none (f : Nat → Bool) : (cls.any (inside ((List.range 10).filter f))) = !((List.range 13).any (keeps_ ((List.range 10).filter f))) := by
  have hm : (List.range 10).map f ∈ rb 10 := (mem_rb 10 _).mpr (by rw [List.length_map, List.length_range])
  have e : pick ((List.range 10).map f) = (List.range 10).filter f := by
    unfold pick
    refine List.filter_congr fun p hp => ?_
    unfold sh
    rw [List.getElem?_map, List.getElem?_range (List.mem_range.mp hp)]; rfl
  have h := List.all_eq_true.mp torn_none0 _ hm
  rw [e] at h
  exact beq_iff_eq.mp h
theorem last_ok : ∀ c ∈ cls, ∀ k : Nat, k < c.length → ∀ (x0 x1 x2 x3 x4 x5 x6 x7 x8 x9 : Sl) (s : Tau), dAndV (dOp isBD (dCall f_can_hold (dCons (dVar 10) dNil)) (dC (.bl false))) (dOp isBD (dCall f_can_hold (dCons (dOp addD (dSl slD (dVar 10) dNone (dSome (dVar 11))) (dSl slD (dVar 10) (dSome (dOp addD (dVar 11) (dC (.int 1)))) dNone)) dNil)) (dC (.bl true)))
    [x0, x1, x2, x3, x4, x5, x6, x7, x8, x9, .im (wD c), .im (.int k)] s = some (.bl true, s) := by
  intro c hc k hk x0 x1 x2 x3 x4 x5 x6 x7 x8 x9 s
  simp only [cls, List.mem_cons, List.not_mem_nil, or_false] at hc
  rcases hc with rfl | rfl | rfl | rfl | rfl | rfl | rfl | rfl | rfl | rfl | rfl | rfl | rfl | rfl
  all_goals
    match k, hk with
    | 0, _ => kernel_rfl
    | 1, _ => kernel_rfl
    | 2, hk => first | exact absurd hk (by decide) | kernel_rfl
    | 3, hk => first | exact absurd hk (by decide) | kernel_rfl
    | k + 4, hk => exact absurd hk (by simp)
end Rk03
end
section
set_option Elab.async false
set_option linter.all false
set_option maxRecDepth 100000
set_option maxHeartbeats 4000000
open PySem L2 Dl PyProof.Rows
namespace Rk03
theorem conv_strs {α : Type} (f : α → Str) (l : List α) : (D.tup (l.map fun x => D.str (f x))).conv = some (.tuple ((l.map f).map PyData.str)) := by
  show (convL (l.map fun x => D.str (f x))).map PyData.tuple = _
  rw [convL_map (fun x => D.str (f x)) (fun x => PyData.str (f x)) fun _ => rfl, List.map_map]; rfl
theorem alike_strs {x y : D} {xs : List Str} (hx : x.conv = some (.tuple (xs.map PyData.str))) (hy : y.conv = some (.tuple (xs.map PyData.str))) (h : ∀ z ∈ xs, PyData.strOk z = true) (hl : xs.length ≤ 1000000) (s : Tau) : f__law_alike 4 [x, y] s = some ((.bl true, false), s) :=
  alike_ok 4 _ _ _ s hx hy (lay_strs h) (by show PyData.depthAll (xs.map PyData.str) + 1 < 4; rw [depth_strs]; decide) (.tup (by rw [List.length_map]; exact hl) fun p hp => by
    obtain ⟨b, _, rfl⟩ := List.mem_map.mp hp
    exact .str _)
theorem eq_of_ne {d e : D} {b : Bool} (h : neD d e = some (.bl b)) : eqD d e = some (.bl (!b)) := by
  unfold neD at h
  unfold eqD
  cases q : eqB d e with
  | none => rw [q] at h; cases h
  | some c =>
    rw [q] at h
    have h : some (D.bl (!c)) = some (D.bl b) := h
    cases h
    rw [Bool.not_not]; rfl
/-- clashes, as rows of texts -/
def cD (c : List Nat) : PyData := .tuple ((c.map pr).map PyData.str)
theorem conv_cls (e : List Nat → D) (he : ∀ c, (e c).conv = some (cD c)) (l : List (List Nat)) : convL (l.map e) = some (l.map cD) := convL_map e cD he l
theorem conv_wD (c : List Nat) : (wD c).conv = some (cD c) := conv_strs pr c
theorem conv_kD (c : List Nat) : (D.ktp (c.map proD)).conv = some (cD c) := conv_strs pr c
theorem lay_cls : ∀ {l : List (List Nat)}, (∀ c ∈ l, ∀ p ∈ c, p < 10) → PyData.canLayAll0 (l.map cD) = true
  | [], _ => rfl
  | c :: l, h => by
    show (PyData.canLayAll0 ((c.map pr).map PyData.str) && PyData.canLayAll0 (l.map cD)) = true
    rw [lay_cls fun c hc => h c (List.mem_cons_of_mem _ hc), lay_strs fun x hx => by
      obtain ⟨p, hp, rfl⟩ := List.mem_map.mp hx
      exact pr_ok p (h c List.mem_cons_self p hp)]; rfl
theorem depth_cls : ∀ l : List (List Nat), PyData.depthAll (l.map cD) ≤ 1
  | [] => Nat.zero_le _
  | c :: l => by
    show max (PyData.depthAll ((c.map pr).map PyData.str) + 1) (PyData.depthAll (l.map cD)) ≤ 1
    rw [depth_strs]
    have := depth_cls l
    omega
theorem alike_cls {l : List (List Nat)} (h : ∀ c ∈ l, ∀ p ∈ c, p < 10) (h4 : ∀ c ∈ l, c.length ≤ 4) (hl : l.length ≤ 14) (s : Tau) : f__law_alike 4 [.tup (l.map fun c => D.ktp (c.map proD)), .tup (l.map wD)] s = some ((.bl true, false), s) := by
  refine alike_ok 4 _ _ (.tuple (l.map cD)) s ?_ ?_ (lay_cls h) (by show PyData.depthAll (l.map cD) + 1 < 4; have := depth_cls l; omega) (.tup (by rw [List.length_map]; omega) fun p hp => ?_)
  · show (convL _).map PyData.tuple = _
    rw [conv_cls (fun c => D.ktp (c.map proD)) conv_kD]; rfl
  · show (convL _).map PyData.tuple = _
    rw [conv_cls wD conv_wD]; rfl
  · obtain ⟨c, hc, rfl⟩ := List.mem_map.mp hp
    have := h4 c hc
    refine .tup (by rw [List.length_map, List.length_map]; omega) fun q hq => ?_
    obtain ⟨b, _, rfl⟩ := List.mem_map.mp hq
    exact .str _
theorem ne_cls {l : List (List Nat)} (h : ∀ c ∈ l, ∀ p ∈ c, p < 10) : neD (.lst (l.map wD)) (.lst []) = some (.bl (!l.isEmpty)) := by
  have e : eqB (.lst (l.map wD)) (.lst []) = some (l.isEmpty) := by
    have h1 : (D.lst (l.map wD)).conv = some (.list (l.map cD)) := by
      show (convL _).map PyData.list = _
      rw [conv_cls wD conv_wD]; rfl
    rw [eqB_of h1 (show (D.lst []).conv = some (.list []) from rfl) (by
      unfold SeqAt.shaped
      rw [Bool.and_eq_true]
      refine ⟨lay_cls h, decide_eq_true ?_⟩
      show PyData.depthAll (l.map cD) + 1 ≤ 64
      have := depth_cls l
      omega) rfl]
    cases l <;> rfl
  unfold neD
  rw [e]; rfl
end Rk03
end
section
set_option Elab.async false
set_option linter.all false
set_option maxRecDepth 100000
set_option maxHeartbeats 4000000
open PySem L2 Dl PyProof.Rows
namespace Rk03
theorem nin_of {d e : D} {b : Bool} (h : inD d e = some (.bl b)) : ninD d e = some (.bl (!b)) := by
  unfold inD at h
  unfold ninD
  cases q : inB d e with
  | none => rw [q] at h; cases h
  | some c =>
    rw [q] at h
    have h : some (D.bl c) = some (D.bl b) := h
    cases h; rfl
theorem all_not {α : Type} (q : α → Bool) (w : List α) : (!(w.any fun p => !(q p))) = w.all q := by
  induction w with
  | nil => rfl
  | cons x w ih => rw [List.any_cons, List.all_cons, ← ih]; cases q x <;> rfl
/-- what a way does not keep of w: nothing? -/
theorem unkept {dw : Da} {dk : Dn} {j : Nat} {ρ : List Sl} {w : List Nat} {i : Nat} {t : Tau} (hw : dw ρ t = some (w.map proD, t)) (hl : w.length ≤ 1000) (h : ∀ p ∈ w, p < 10) (hi : i < 13)
    (hk : ∀ p ∈ w, ∃ ρ1, gdName j (proD p) (wipeD ρ [j]) = some ρ1 ∧ dVar j ρ1 t = some (proD p, t) ∧ dk ρ1 t = some (.lst ((kp i).map proD), t)) :
    dB (dOp eqD (dLc dw (gdName j) (dB (dOp ninD (dVar j) dk)) (dVar j) [j]) (dLst dNil)) ρ t = some (keeps_ w i, t) := by
  have lc := lc_map (g := gdName j) (di := dw) (bt := dB (dOp ninD (dVar j) dk)) (de := dVar j) (vs := [j]) (ρ := ρ) (s := t) proD (fun p => !(kp i).contains p) proD w hw (by omega) (fun p hp => by
    obtain ⟨ρ1, h1, h2, h3⟩ := hk p hp
    exact ⟨ρ1, h1, b_of (op_of h2 h3 (nin_of (in_prs rfl rfl (kp_ok i hi) (h p hp)))), fun _ => h2⟩)
  have e := eq_of_ne (ne_strs_kept pr (fun p => !(kp i).contains p) w fun p hp => pr_ok p (h p hp))
  rw [all_not] at e
  exact b_of (op_of lc (lst_of rfl (by decide)) e)
theorem loop_nx1 {g : Dg} {b : Ds} {x : D} {xs : List D} {ρ ρ1 ρ2 : List Sl} {s s2 : Tau} (h1 : g x ρ = some ρ1) (h2 : b ρ1 s = some (.nx ρ2, s2)) : dLoop g b (x :: xs) ρ s = dLoop g b xs ρ2 s2 := by
  simp only [dLoop, h1, h2, Option.bind_some]
theorem loop_rt1 {g : Dg} {b : Ds} {x : D} {xs : List D} {ρ ρ1 : List Sl} {s s2 : Tau} {d : D} {o : Bool} (h1 : g x ρ = some ρ1) (h2 : b ρ1 s = some (.rt d o, s2)) : dLoop g b (x :: xs) ρ s = some (.rt d o, s2) := by
  simp only [dLoop, h1, h2, Option.bind_some]
theorem goes_loop {d : D} {w : List Nat} (hd : d.asT = some (w.map proD)) (h : ∀ p ∈ w, p < 10) (hl : w.length ≤ 1000) (s : Tau) : ∀ (is : List Nat), (∀ i ∈ is, i < 13) → ∀ y : Sl,
    (is.any (keeps_ w) = true → dLoop (gdName 1) (dIfS (dB (dOp eqD (dLc (dItT (dVar 0)) (gdName 2) (dB (dOp ninD (dVar 2) (dCall f__law_keeps (dCons (dVar 1) dNil)))) (dVar 2) [2]) (dLst dNil))) (dRet (dC (.bl true))) dNext) (is.map fun i => D.str (wy i)) [.im d, y, .un] s = some (.rt (.bl true) false, s)) ∧
    (is.any (keeps_ w) = false → ∃ y', dLoop (gdName 1) (dIfS (dB (dOp eqD (dLc (dItT (dVar 0)) (gdName 2) (dB (dOp ninD (dVar 2) (dCall f__law_keeps (dCons (dVar 1) dNil)))) (dVar 2) [2]) (dLst dNil))) (dRet (dC (.bl true))) dNext) (is.map fun i => D.str (wy i)) [.im d, y, .un] s = some (.nx [.im d, y', .un], s))
  | [], _, y => ⟨fun e => (nomatch e), fun _ => ⟨y, rfl⟩⟩
  | i :: is, hi, y => by
    have u := unkept (ρ := [.im d, .im (.str (wy i)), .un]) (dw := dItT (dVar 0)) (j := 2) (dk := dCall f__law_keeps (dCons (dVar 1) dNil)) (t := s) (w := w) (i := i) (itT_of rfl hd) hl h (hi i List.mem_cons_self) (fun p hp => ⟨_, rfl, rfl, call_of (one_of rfl) (lkeeps_ok s i (hi i List.mem_cons_self))⟩)
    have ih := goes_loop hd h hl s is (fun j hj => hi j (List.mem_cons_of_mem _ hj)) (.im (.str (wy i)))
    rw [List.any_cons, List.map_cons]
    cases q : keeps_ w i with
    | true =>
      rw [q] at u
      exact ⟨fun _ => loop_rt1 (ρ1 := [.im d, .im (.str (wy i)), .un]) rfl (ifT u rfl), fun e => (nomatch e)⟩
    | false =>
      rw [q] at u
      rw [Bool.false_or, loop_nx1 (ρ1 := [.im d, .im (.str (wy i)), .un]) rfl (ifF u rfl)]
      exact ih
theorem goes_ok {d : D} {w : List Nat} (hd : d.asT = some (w.map proD)) (h : ∀ p ∈ w, p < 10) (hl : w.length ≤ 1000) (s : Tau) : f__law_goes [d] s = some ((.bl ((List.range 13).any (keeps_ w)), false), s) := by
  have lp := goes_loop hd h hl s (List.range 13) (fun i hi => List.mem_range.mp hi) .un
  have e1 : ∀ r, dLoop (gdName 1) _ ((List.range 13).map fun i => D.str (wy i)) [.im d, .un, .un] s = r → dFor (dItL (dCall f__law_ways dNil)) (gdName 1) (dIfS (dB (dOp eqD (dLc (dItT (dVar 0)) (gdName 2) (dB (dOp ninD (dVar 2) (dCall f__law_keeps (dCons (dVar 1) dNil)))) (dVar 2) [2]) (dLst dNil))) (dRet (dC (.bl true))) dNext) [.im d, .un, .un] s = r := fun r e => by
    unfold dFor
    rw [itL_of (call_of rfl (lways_ok s))]
    exact e
  cases q : (List.range 13).any (keeps_ w) with
  | true => exact fn_rt (seq_rt (e1 _ (lp.1 q)))
  | false =>
    obtain ⟨y, e⟩ := lp.2 q
    exact fn_rt (seq_nx (e1 _ e) (ret_of rfl))
end Rk03
end
section
set_option Elab.async false
set_option linter.all false
set_option maxRecDepth 100000
set_option maxHeartbeats 4000000
open PySem L2 Dl PyProof.Rows
namespace Rk03
def rest (w : List Nat) : List Nat := (List.range 10).filter fun p => !w.contains p
def more (w : List Nat) (p : Nat) : Bool := (List.range 13).any (keeps_ (w ++ [p]))
theorem rest_lt {w : List Nat} : ∀ p ∈ rest w, p < 10 := fun p hp => List.mem_range.mp (List.mem_filter.mp hp).1
theorem rest_len (w : List Nat) : (rest w).length ≤ 10 := Nat.le_trans (List.length_filter_le _ _) (by rw [List.length_range]; exact Nat.le_refl _)
theorem snoc_lt {w : List Nat} (h : ∀ p ∈ w, p < 10) {p : Nat} (hp : p < 10) : ∀ q ∈ w ++ [p], q < 10 := fun q hq => by
  rcases List.mem_append.mp hq with z | z
  · exact h q z
  · rw [List.mem_singleton.mp z]; exact hp
theorem can_add_ok {w : List Nat} (h : Asc w) (hl : w.length ≤ 10) (s : Tau) : f_can_add [wD w] s = some ((.tup (((rest w).filter (more w)).map proD), false), s) := by
  have l1 := lc_map (g := gdName 2) (di := dItT (dC c_PROMISES)) (bt := dB (dOp ninD (dVar 2) (dVar 0))) (de := dVar 2) (vs := [2]) (ρ := [.im (wD w), .un, .un]) (s := s) proD (fun p => !w.contains p) proD (List.range 10) (itT_of rfl (by kernel_rfl)) (by decide) (fun p hp =>
    ⟨_, rfl, b_of (op_of rfl rfl (nin_of (in_prs (d := wD w) rfl rfl h.2 (List.mem_range.mp hp)))), fun _ => rfl⟩)
  have l2 := lc_map (g := gdName 2) (di := dItL (dVar 1)) (bt := dB (dOp neD (dCall f_keepers_of (dCons (dTup (dStar (dVar 0) (dCons (dVar 2) dNil))) dNil)) (dLst dNil))) (de := dVar 2) (vs := [2]) (ρ := [.im (wD w), .im (.lst ((rest w).map proD)), .un]) (s := s) proD (more w) proD (rest w) (itL_of rfl) (by have := rest_len w; omega) (fun p hp => by
    have st : dTup (dStar (dVar 0) (dCons (dVar 2) dNil)) [.im (wD w), .im (.lst ((rest w).map proD)), .im (proD p)] s = some (.tup (w.map proD ++ [proD p]), s) := tup_of (by rfl) (by rw [List.length_append, List.length_map, List.length_singleton]; omega)
    have kk := keepers_any (w := w ++ [p]) (d := .tup (w.map proD ++ [proD p])) (by rw [List.map_append]; rfl) (snoc_lt h.2 (rest_lt p hp)) (by rw [List.length_append, List.length_singleton]; omega) s
    exact ⟨_, rfl, b_of (op_of (call_of (one_of st) kk) (lst_of rfl (by decide)) (ne_strs_kept wy (keeps_ (w ++ [p])) (List.range 13) fun i hi => wy_ok i (List.mem_range.mp hi))), fun _ => rfl⟩)
  exact fn_rt (sN (drop_of (call_of (one_of rfl) (needp_ok h (by omega) s))) (sN (asg_of l1) (ret_of (callB_of (one_of l2) rfl))))
theorem keepers_ok {w : List Nat} (h : Asc w) (hl : w.length ≤ 10) (s : Tau) : f_keepers [wD w] s = some ((.tup (((List.range 13).filter (keeps_ w)).map fun i => D.str (wy i)), false), s) :=
  fn_rt (sN (drop_of (call_of (one_of rfl) (needp_ok h (by omega) s))) (ret_of (callB_of (one_of (call_of (one_of rfl) (keepers_any rfl h.2 (by omega) s))) rfl)))
theorem can_hold_ok {w : List Nat} (h : Asc w) (hl : w.length ≤ 10) (s : Tau) : f_can_hold [wD w] s = some ((.bl ((List.range 13).any (keeps_ w)), false), s) :=
  fn_rt (sN (drop_of (call_of (one_of rfl) (needp_ok h (by omega) s))) (ret_of (op_of (call_of (one_of rfl) (keepers_any rfl h.2 (by omega) s)) rfl (ne_strs_kept _ _ _ fun i hi => wy_ok i (List.mem_range.mp hi)))))
theorem good_ok {w : List Nat} (h : Asc w) (hl : w.length ≤ 10) (x0 x2 x4 x5 x6 x7 x8 x9 x10 x11 : Sl) (s : Tau) : dLc (dItL (dCall f__law_ways dNil)) (gdName 5) (dB (dOp eqD (dLc (dItT (dVar 3)) (gdName 6) (dB (dOp ninD (dVar 6) (dCall f__law_keeps (dCons (dVar 5) dNil)))) (dVar 6) [6]) (dLst dNil))) (dVar 5) [5]
    [x0, .im .rw, x2, .im (wD w), x4, x5, x6, x7, x8, x9, x10, x11] s = some (.lst (((List.range 13).filter (keeps_ w)).map fun i => D.str (wy i)), s) :=
  lc_map (fun i : Nat => D.str (wy i)) (keeps_ w) (fun i : Nat => D.str (wy i)) (List.range 13) (itL_of (call_of rfl (lways_ok s))) (by decide) (fun i hi => by
    have hi := List.mem_range.mp hi
    exact ⟨_, rfl, unkept (itT_of rfl rfl) (by omega) h.2 hi (fun p hp => ⟨_, rfl, rfl, call_of (one_of rfl) (lkeeps_ok s i hi)⟩), fun _ => rfl⟩)
theorem torn_ok {w : List Nat} (h : Asc w) (hl : w.length ≤ 10) (x0 x2 x4 x5 x6 x7 x8 x9 x10 x11 : Sl) (s : Tau) : dLc (dItL (dCall f__law_clashes dNil)) (gdName 8) (dB (dOp eqD (dLc (dItT (dVar 8)) (gdName 6) (dB (dOp ninD (dVar 6) (dVar 3))) (dVar 6) [6]) (dLst dNil))) (dVar 8) [8]
    [x0, .im .rw, x2, .im (wD w), x4, x5, x6, x7, x8, x9, x10, x11] s = some (.lst ((cls.filter (inside w)).map wD), s) :=
  lc_map wD (inside w) wD cls (itL_of (call_of rfl (lclashes_ok s))) (by decide) (fun c hc => by
    have l4 : c.length ≤ 4 := by revert c; decide
    have lc := lc_map (g := gdName 6) (di := dItT (dVar 8)) (bt := dB (dOp ninD (dVar 6) (dVar 3))) (de := dVar 6) (vs := [6]) (ρ := [x0, .im .rw, x2, .im (wD w), x4, x5, x6, x7, .im (wD c), x9, x10, x11]) (s := s) proD (fun p => !w.contains p) proD c (itT_of rfl rfl) (by omega)
      (fun p hp => ⟨_, rfl, b_of (op_of rfl rfl (nin_of (in_prs (d := wD w) rfl rfl h.2 (cls_ok c hc p hp)))), fun _ => rfl⟩)
    have e := eq_of_ne (ne_strs_kept pr (fun p => !w.contains p) c fun p hp => pr_ok p (cls_ok c hc p hp))
    rw [all_not] at e
    exact ⟨_, rfl, b_of (op_of lc (lst_of rfl (by decide)) e), fun _ => rfl⟩)
theorem lis_ok (b : Bool) (s : Tau) : f__law_is [.bl b, .bl b] s = some ((.bl true, false), s) := by cases b <;> kernel_rfl
end Rk03
end
section
set_option Elab.async false
set_option linter.all false
set_option maxRecDepth 100000
set_option maxHeartbeats 4000000
open PySem L2 Dl PyProof.Rows
namespace Rk03
theorem turn_ok (ns : List Int) (x : D) (x3 x4 x5 x6 x7 x8 x9 x10 x11 : Sl) (t : Tau) (ht : 0 ≤ t.a) : ∃ y3 y4 y7 y9 t', ((dSeq (dAsg (dCall f__law_words (dCons (dVar 1) (dCons (dCall f__law_pick (dCons (dVar 1) (dCons (dLst (dCons (dC (.int 2)) (dCons (dC (.int 3)) (dCons (dC (.int 4)) dNil)))) dNil))) dNil))) (gdName 3)) (dSeq (dAsg (dLc (dItL (dCall f__law_ways dNil)) (gdName 5) (dB (dOp eqD (dLc (dItT (dVar 3)) (gdName 6) (dB (dOp ninD (dVar 6) (dCall f__law_keeps (dCons (dVar 5) dNil)))) (dVar 6) [6]) (dLst dNil))) (dVar 5) [5]) (gdName 4)) (dSeq (dAsg (dLc (dItL (dCall f__law_clashes dNil)) (gdName 8) (dB (dOp eqD (dLc (dItT (dVar 8)) (gdName 6) (dB (dOp ninD (dVar 6) (dVar 3))) (dVar 6) [6]) (dLst dNil))) (dVar 8) [8]) (gdName 7)) (dSeq (dIfS (dB (dOp neD (dOp eqD (dVar 4) (dLst dNil)) (dOp neD (dVar 7) (dLst dNil)))) (dRet (dC (.bl false))) dNext) (dSeq (dIfS (dOr (dNot (dB (dCall (f__law_alike 4) (dCons (dCall f_keepers (dCons (dVar 3) dNil)) (dCons (dCallB tupleD (dCons (dVar 4) dNil)) dNil))))) (dNot (dB (dCall f__law_is (dCons (dCall f_can_hold (dCons (dVar 3) dNil)) (dCons (dOp neD (dVar 4) (dLst dNil)) dNil)))))) (dRet (dC (.bl false))) dNext) (dSeq (dAsg (dLc (dItL (dCall f__law_promises dNil)) (gdName 6) (dB (dOp ninD (dVar 6) (dVar 3))) (dVar 6) [6]) (gdName 9)) (dIfS (dOr (dNot (dB (dCall (f__law_alike 4) (dCons (dCall f_clashes (dCons (dVar 3) dNil)) (dCons (dCallB tupleD (dCons (dVar 7) dNil)) dNil))))) (dNot (dB (dCall (f__law_alike 4) (dCons (dCall f_can_add (dCons (dVar 3) dNil)) (dCons (dCallB tupleD (dCons (dLc (dItL (dVar 9)) (gdName 6) (dB (dCall f__law_goes (dCons (dOp addD (dVar 3) (dTup (dCons (dVar 6) dNil))) dNil))) (dVar 6) [6]) dNil)) dNil)))))) (dRet (dC (.bl false))) dNext)))))))) [.im (.sl ns), .im .rw, .im x, x3, x4, x5, x6, x7, x8, x9, x10, x11] t = some (.nx [.im (.sl ns), .im .rw, .im x, y3, y4, x5, x6, y7, x8, y9, x10, x11], t') ∧ 0 ≤ t'.a := by
  obtain ⟨m, t1, p1, p2, p3⟩ := pick_ok t ht [.int 2, .int 3, .int 4] (by simp) (by show 3 ≤ 1000000; decide)
  obtain ⟨mm, rfl, m1, m2⟩ : ∃ mm : Int, m = .int mm ∧ 1 ≤ mm ∧ mm < 1073741824 := by
    simp only [List.mem_cons, List.not_mem_nil, or_false] at p2
    rcases p2 with rfl | rfl | rfl
    · exact ⟨2, rfl, by decide, by decide⟩
    · exact ⟨3, rfl, by decide, by decide⟩
    · exact ⟨4, rfl, by decide, by decide⟩
  obtain ⟨f, t2, w1, w2⟩ := words_ok mm m1 m2 t1 p3
  have aw : Asc ((List.range 10).filter f) := asc_filter f
  have lw : ((List.range 10).filter f).length ≤ 10 := Nat.le_trans (List.length_filter_le _ _) (by rw [List.length_range]; exact Nat.le_refl _)
  have tn := torn_none f
  generalize (List.range 10).filter f = w at w1 aw lw tn
  have nw : neD (.lst (((List.range 13).filter (keeps_ w)).map fun i => D.str (wy i))) (.lst []) = some (.bl ((List.range 13).any (keeps_ w))) := ne_strs_kept _ _ _ fun i hi => wy_ok i (List.mem_range.mp hi)
  have cl : ∀ c ∈ cls.filter (inside w), ∀ p ∈ c, p < 10 := fun c hc => cls_ok c (List.mem_filter.mp hc).1
  have nc : neD (.lst ((cls.filter (inside w)).map wD)) (.lst []) = some (.bl (!(List.range 13).any (keeps_ w))) := by
    rw [ne_cls cl, ← tn]
    congr 2
    generalize cls = l
    induction l with
    | nil => rfl
    | cons c l ih =>
      rw [List.any_cons, List.filter_cons]
      cases inside w c with
      | true => rfl
      | false => rw [Bool.false_or, ← ih]; rfl
  have sk : ∀ {α : Type} (g : α → Str) (l : List α), (D.tup (l.map fun i => D.str (g i))).conv = some (.tuple ((l.map g).map PyData.str)) := fun g l => conv_strs g l
  have k13 : (((List.range 13).filter (keeps_ w)).map wy).length ≤ 1000000 := by
    have := List.length_filter_le (keeps_ w) (List.range 13)
    rw [List.length_range] at this
    rw [List.length_map]; omega
  have a1 : f__law_alike 4 [.tup (((List.range 13).filter (keeps_ w)).map fun i => D.str (wy i)), .tup (((List.range 13).filter (keeps_ w)).map fun i => D.str (wy i))] t2 = some ((.bl true, false), t2) := alike_strs (sk _ _) (sk _ _) (fun z hz => by
    obtain ⟨i, hi, rfl⟩ := List.mem_map.mp hz
    exact wy_ok i (List.mem_range.mp (List.mem_filter.mp hi).1)) k13 t2
  have a2 : f__law_alike 4 [.tup (((rest w).filter (more w)).map proD), .tup (((rest w).filter (more w)).map proD)] t2 = some ((.bl true, false), t2) := alike_strs (xs := ((rest w).filter (more w)).map pr) (sk pr _) (sk pr _) (fun z hz => by
    obtain ⟨i, hi, rfl⟩ := List.mem_map.mp hz
    exact pr_ok i (rest_lt i (List.mem_filter.mp hi).1)) (by
      have := List.length_filter_le (more w) (rest w)
      have := rest_len w
      rw [List.length_map]; omega) t2
  have c14 : (cls.filter (inside w)).length ≤ 14 := List.length_filter_le _ _
  have a3 := alike_cls cl (fun c hc => (by
    have := (List.mem_filter.mp hc).1
    revert this
    generalize c = c
    revert c
    decide : c.length ≤ 4)) c14 t2
  have bb : ∀ G : Bool, neD (.bl (!G)) (.bl (!G)) = some (.bl false) := fun G => by cases G <;> rfl
  refine ⟨.im (wD w), .im (.lst (((List.range 13).filter (keeps_ w)).map fun i => D.str (wy i))), .im (.lst ((cls.filter (inside w)).map wD)), .im (.lst ((rest w).map proD)), t2, ?_, w2⟩
  refine seq_nx (s1 := t2) (asg_of (call_of (cons_of rfl (one_of (call_of (cons_of rfl (one_of (lst_of (cons_of rfl (cons_of rfl (one_of rfl))) (by decide)))) p1))) w1)) ?_
  refine seq_nx (asg_of (good_ok aw lw _ _ _ _ _ _ _ _ _ _ t2)) ?_
  refine seq_nx (asg_of (torn_ok aw lw _ _ _ _ _ _ _ _ _ _ t2)) ?_
  refine seq_ifF (s1 := t2) (b_of (op_of (op_of rfl (lst_of rfl (by decide)) (eq_of_ne nw)) (op_of rfl (lst_of rfl (by decide)) nc) (bb _))) ?_
  refine seq_ifF (s1 := t2) (orF_of (s1 := t2) (Dl.not_of (b := true) (b_of (call_of (cons_of (call_of (one_of rfl) (keepers_ok aw lw t2)) (one_of (callB_of (one_of rfl) rfl))) a1))) (Dl.not_of (b := true) (b_of (call_of (cons_of (call_of (one_of rfl) (can_hold_ok aw lw t2)) (one_of (op_of rfl (lst_of rfl (by decide)) nw))) (lis_ok _ t2))))) ?_
  refine seq_nx (s1 := t2) (asg_of (lc_map proD (fun p => !w.contains p) proD (List.range 10) (itL_of (call_of rfl (lpromises_ok t2))) (by decide) (fun p hp => ⟨_, rfl, b_of (op_of rfl rfl (nin_of (in_prs (d := wD w) rfl rfl aw.2 (List.mem_range.mp hp)))), fun _ => rfl⟩))) ?_
  refine ifF (s1 := t2) (orF_of (s1 := t2) (Dl.not_of (b := true) (b_of (call_of (cons_of (call_of (one_of rfl) (clashes_ok aw (by omega) t2)) (one_of (callB_of (one_of rfl) rfl))) a3))) (Dl.not_of (b := true) (b_of (call_of (cons_of (call_of (one_of rfl) (can_add_ok aw lw t2)) (one_of (callB_of (one_of (lc_map proD (more w) proD (rest w) (itL_of rfl) (by have := rest_len w; omega) (fun p hp => ?_))) rfl))) a2)))) rfl
  exact ⟨_, rfl, b_of (call_of (one_of (op_of (z := .ktp (w.map proD ++ [proD p])) rfl (tup_of (one_of rfl) (by show 1 ≤ 1000000; decide)) (by
    show (if _ then _ else _) = _
    rw [if_pos (by rw [List.length_map, List.length_singleton]; omega)]))) (goes_ok (w := w ++ [p]) (by rw [List.map_append]; rfl) (snoc_lt aw.2 (rest_lt p hp)) (by rw [List.length_append, List.length_singleton]; omega) t2)), fun _ => rfl⟩
end Rk03
end
section
set_option Elab.async false
set_option linter.all false
set_option maxRecDepth 100000
set_option maxHeartbeats 4000000
open PySem L2 Dl PyProof.Rows
namespace Rk03
theorem least_alike (s : Tau) : f__law_alike 4 [.ktp (cls.map fun c => D.ktp (c.map proD)), .tup (cls.map wD)] s = some ((.bl true, false), s) := by kernel_rfl
theorem great_alike (s : Tau) : f__law_alike 4 [.tup (gs.map fun c => D.ktp (c.map proD)), .tup (gs.map fun c => D.ktp (c.map proD))] s = some ((.bl true, false), s) := by kernel_rfl
theorem law_pure (ns : List Int) (hl : ns.length ≤ 63) : ∃ s', d_law ((Sl.im (.sl ns) :: List.replicate 11 .un).set 1 (.im .rw)) ⟨0, 15603, 0, ns⟩ = some (.rt (.bl true) false, s') := by
  obtain ⟨ρ1, s1, h1, ⟨x2, x3, x4, x5, x6, x7, x8, x9, x10, x11, rfl⟩, h3⟩ := for_nx (it := dRng1 (dCons (dC (.int 4)) dNil)) (g := gdName 2) (ρ := [.im (.sl ns), .im .rw, .un, .un, .un, .un, .un, .un, .un, .un, .un, .un]) (s := ⟨0, 15603, 0, ns⟩) (s1 := ⟨0, 15603, 0, ns⟩)
    (b := ((dSeq (dAsg (dCall f__law_words (dCons (dVar 1) (dCons (dCall f__law_pick (dCons (dVar 1) (dCons (dLst (dCons (dC (.int 2)) (dCons (dC (.int 3)) (dCons (dC (.int 4)) dNil)))) dNil))) dNil))) (gdName 3)) (dSeq (dAsg (dLc (dItL (dCall f__law_ways dNil)) (gdName 5) (dB (dOp eqD (dLc (dItT (dVar 3)) (gdName 6) (dB (dOp ninD (dVar 6) (dCall f__law_keeps (dCons (dVar 5) dNil)))) (dVar 6) [6]) (dLst dNil))) (dVar 5) [5]) (gdName 4)) (dSeq (dAsg (dLc (dItL (dCall f__law_clashes dNil)) (gdName 8) (dB (dOp eqD (dLc (dItT (dVar 8)) (gdName 6) (dB (dOp ninD (dVar 6) (dVar 3))) (dVar 6) [6]) (dLst dNil))) (dVar 8) [8]) (gdName 7)) (dSeq (dIfS (dB (dOp neD (dOp eqD (dVar 4) (dLst dNil)) (dOp neD (dVar 7) (dLst dNil)))) (dRet (dC (.bl false))) dNext) (dSeq (dIfS (dOr (dNot (dB (dCall (f__law_alike 4) (dCons (dCall f_keepers (dCons (dVar 3) dNil)) (dCons (dCallB tupleD (dCons (dVar 4) dNil)) dNil))))) (dNot (dB (dCall f__law_is (dCons (dCall f_can_hold (dCons (dVar 3) dNil)) (dCons (dOp neD (dVar 4) (dLst dNil)) dNil)))))) (dRet (dC (.bl false))) dNext) (dSeq (dAsg (dLc (dItL (dCall f__law_promises dNil)) (gdName 6) (dB (dOp ninD (dVar 6) (dVar 3))) (dVar 6) [6]) (gdName 9)) (dIfS (dOr (dNot (dB (dCall (f__law_alike 4) (dCons (dCall f_clashes (dCons (dVar 3) dNil)) (dCons (dCallB tupleD (dCons (dVar 7) dNil)) dNil))))) (dNot (dB (dCall (f__law_alike 4) (dCons (dCall f_can_add (dCons (dVar 3) dNil)) (dCons (dCallB tupleD (dCons (dLc (dItL (dVar 9)) (gdName 6) (dB (dCall f__law_goes (dCons (dOp addD (dVar 3) (dTup (dCons (dVar 6) dNil))) dNil))) (dVar 6) [6]) dNil)) dNil)))))) (dRet (dC (.bl false))) dNext))))))))) (fun t => 0 ≤ t.a) (fun ρ => ∃ x2 x3 x4 x5 x6 x7 x8 x9 x10 x11, ρ = [.im (.sl ns), .im .rw, x2, x3, x4, x5, x6, x7, x8, x9, x10, x11]) (rng1_of (n := 4) rfl (by decide)) ⟨_, _, _, _, _, _, _, _, _, _, rfl⟩ (by show (0 : Int) ≤ 0; decide) (fun x hx ρ t hj ht => by
      obtain ⟨x2, x3, x4, x5, x6, x7, x8, x9, x10, x11, rfl⟩ := hj
      obtain ⟨y3, y4, y7, y9, t', e, q⟩ := turn_ok ns x x3 x4 x5 x6 x7 x8 x9 x10 x11 t ht
      exact ⟨_, _, t', rfl, e, ⟨_, _, _, _, _, _, _, _, _, _, rfl⟩, q⟩)
  obtain ⟨c0, s2, p1, p2, p3⟩ := pick_ok s1 h3 (cls.map wD) (by simp [cls]) (by show 14 ≤ 1000000; decide)
  obtain ⟨c, hc, rfl⟩ := List.mem_map.mp p2
  have l4 : 1 ≤ c.length ∧ c.length ≤ 4 := (show ∀ c ∈ cls, 1 ≤ c.length ∧ c.length ≤ 4 by decide) c hc
  obtain ⟨k, s3, t1, t2, t3, t4⟩ := taken_ok s2 p3 (c.length : Int) (by omega) (by omega)
  obtain ⟨n, rfl⟩ : ∃ n : Nat, k = n := ⟨k.toNat, by omega⟩
  have ln : lenD [wD c] = some (.int (c.length : Int)) := by
    show some (D.int ((c.map proD).length : Int)) = _
    rw [List.length_map]
  exact ⟨s3, seq_nx h1 (seq_ifF (s1 := s1) (Dl.not_of (b := true) (b_of (call_of (cons_of (call_of rfl (least_ok s1)) (one_of (callB_of (one_of (call_of rfl (lclashes_ok s1))) rfl))) (least_alike s1)))) (seq_nx (asg_of (lst_of (cons_of rfl (cons_of rfl (cons_of rfl (cons_of rfl (cons_of rfl (one_of rfl)))))) (by decide))) (seq_ifF (s1 := s1) (Dl.not_of (b := true) (b_of (call_of (cons_of (call_of rfl (greatest_ok s1)) (one_of (sorted_ok _ _ _ _ _ _ _ _ _ _ _ s1))) (great_alike s1))) ) (seq_nx (asg_of (call_of (cons_of rfl (one_of (call_of rfl (lclashes_ok s1)))) p1)) (seq_nx (asg_of (call_of (cons_of rfl (one_of (callB_of (one_of rfl) ln))) t1)) (ret_of (last_ok c hc n (by omega) _ _ _ _ _ _ _ _ _ _ s3)))))))⟩
end Rk03
end
section
set_option Elab.async false
set_option linter.all false
set_option maxRecDepth 100000
set_option maxHeartbeats 4000000
open PySem PySem.Spec PyProof.Rows L2 Dl
namespace Rk03
def topS (i : Nat) : Stmt := PySem.Challenge.pw_rulevoices_k03_whole_maps.main.body.getD i (.Pass ⟨0, 0, 0, 0⟩)
abbrev s_need_promises : Stmt := topS 12
abbrev s_keepers_of : Stmt := topS 15
abbrev s_can_hold : Stmt := topS 16
abbrev s_keepers : Stmt := topS 17
abbrev s_least_clashes : Stmt := topS 18
abbrev s_clashes : Stmt := topS 19
abbrev s_is_within : Stmt := topS 21
abbrev s_greatest_sets : Stmt := topS 20
abbrev s_can_add : Stmt := topS 22
abbrev s__law_taken : Stmt := topS 24
abbrev s__law_pick : Stmt := topS 25
abbrev s__law_alike : Stmt := topS 26
abbrev s__law_is : Stmt := topS 27
abbrev s__law_ways : Stmt := topS 28
abbrev s__law_promises : Stmt := topS 29
abbrev s__law_keeps : Stmt := topS 30
abbrev s__law_words : Stmt := topS 31
abbrev s__law_clashes : Stmt := topS 32
abbrev s__law_goes : Stmt := topS 33
abbrev s_law : Stmt := topS 34
abbrev FnP (K : PySem.W.Frag) (x : Str) (st : Stmt) (f : Addr) (fd : FuncData) : Prop := FunD K x x (defArgs st) (defBody st) (defScope st) [] [] f fd
structure Tx (K : PySem.W.Frag) (w : World) (mg : Str → Option Value) : Prop where
  f_all : mg "all" = none
  f_any : mg "any" = none
  f_bool : mg "bool" = none
  f_int : mg "int" = none
  f_isinstance : mg "isinstance" = none
  f_len : mg "len" = none
  f_list : mg "list" = none
  f_range : mg "range" = none
  f_set : mg "set" = none
  f_sorted : mg "sorted" = none
  f_str : mg "str" = none
  f_tuple : mg "tuple" = none
  f_zip : mg "zip" = none
  c_WAYS : mg "WAYS" = some (.ref (He.ga K "WAYS")) ∧ ∀ H, SqT K H (He.ga K "WAYS") (l_WAYS.map V.str)
  c_PROMISES : mg "PROMISES" = some (.ref (He.ga K "PROMISES")) ∧ ∀ H, SqT K H (He.ga K "PROMISES") (l_PROMISES.map V.str)
  c_KEPT : mg "KEPT" = some (.ref (He.ga K "KEPT")) ∧ KTab K w (He.ga K "KEPT") l_KEPT
  c_CLASHES : mg "CLASHES" = some (.ref (He.ga K "CLASHES")) ∧ ∀ P c I, Rep ⟨K, P, w⟩ c I (.ref (He.ga K "CLASHES")) c_CLASHES
section
variable {P : Program} {w : World} {K : PySem.W.Frag} {mg : Str → Option Value} {base : Heap}
theorem sc_need_promises : FnScope ["wanted", "one", "other"] ["wanted"] (defScope s_need_promises) := ⟨rfl, rfl, rfl, by decide +kernel, rfl, by decide +kernel, by decide +kernel⟩
theorem ok_need_promises (T : Tx K w mg) (h : ∃ fd, FnP K "need_promises" s_need_promises (He.ga K "need_promises") fd) (g : mg "need_promises" = some (.ref (He.ga K "need_promises")))  : Cd P w K mg base 2 "need_promises" 1 f_need_promises := by
  obtain ⟨h_PROMISES, s_PROMISES⟩ := T.c_PROMISES
  obtain ⟨fd, F⟩ := h
  have b : Binds K fd ["wanted"] [] := F.bindsN fun _ _ _ _ _ _ us hl => match us, hl with | [_], _ => rfl
  exact ⟨_, fd, ["wanted"], rfl, fn_ok (N := ["wanted", "one", "other"]) (k := 1) F sc_need_promises (dn := d_need_promises) (fun cdv A outer s H E hr => ⟨_, (ess_cons (es_if (EW.t (ew_or (et_not (et_val (ee_isi (u := "tuple") (by decide) (by rfl) T.f_isinstance (by rfl) T.f_tuple (by decide +kernel) (ee_var 0)))) (ew_or1 (et_not (et_val (ee_callB (cr_all rfl) sl_allB (by rfl) T.f_all (by decide +kernel) (ea_cons (ee_lc (own := [("one", 1)]) rfl sc_need_promises.nd (ei_tup (ee_var 0)) (by rfl) (egb_mk fun _ _ _ _ _ => (eg_name (i := 1) sc_need_promises.nd rfl (by first | exact .inl rfl | exact .inr rfl))) etb_nil (eeb_mk fun _ _ _ _ _ => (ee_and (ee_isi (u := "str") (by decide) (by rfl) T.f_isinstance (by rfl) T.f_str (by decide +kernel) (ee_var 1)) (ee_one (ee_cmp (cm_in hr) (ee_var 1) (ee_glob (v := .ref (He.ga K "PROMISES")) (by rfl) h_PROMISES rfl (fun _ I => .ktp (s_PROMISES I) (RepL.strs _)))))))) ea_nil))))))) (ess_one es_never) ess_nil)
    (ess_one (es_if (et_not (et_val (ee_callB (cr_all rfl) sl_allB (by rfl) T.f_all (by decide +kernel) (ea_cons (ee_lc (own := [("one", 1), ("other", 2)]) rfl sc_need_promises.nd (ei_zipT (by rfl) T.f_zip (ea_cons (ee_var 0) (ea_cons (ee_sl (ee_var 0) (eo_some ee_int) eo_none) ea_nil))) (by rfl) (egb_mk fun _ _ _ _ _ => (eg_tup rfl (egs_cons (eg_name (i := 1) sc_need_promises.nd rfl (by first | exact .inl rfl | exact .inr rfl)) (egs_cons (eg_name (i := 2) sc_need_promises.nd rfl (by first | exact .inl rfl | exact .inr rfl)) egs_nil)))) etb_nil (eeb_mk fun _ _ _ _ _ => (ee_cmp cm_lt (ee_var 1) (ee_var 2)))) ea_nil)))) (ess_one es_never) ess_nil)))⟩), g, F.kp, b⟩
theorem sc_keepers_of : FnScope ["wanted", "way", "one"] ["wanted"] (defScope s_keepers_of) := ⟨rfl, rfl, rfl, by decide +kernel, rfl, by decide +kernel, by decide +kernel⟩
theorem ok_keepers_of (T : Tx K w mg) (h : ∃ fd, FnP K "keepers_of" s_keepers_of (He.ga K "keepers_of") fd) (g : mg "keepers_of" = some (.ref (He.ga K "keepers_of")))  : Cd P w K mg base 2 "keepers_of" 1 f_keepers_of := by
  obtain ⟨h_KEPT, s_KEPT⟩ := T.c_KEPT
  obtain ⟨h_WAYS, s_WAYS⟩ := T.c_WAYS
  obtain ⟨fd, F⟩ := h
  have b : Binds K fd ["wanted"] [] := F.bindsN fun _ _ _ _ _ _ us hl => match us, hl with | [_], _ => rfl
  exact ⟨_, fd, ["wanted"], rfl, fn_ok (N := ["wanted", "way", "one"]) (k := 1) F sc_keepers_of (dn := d_keepers_of) (fun cdv A outer s H E hr => ⟨_, (ess_one (es_ret (ee_lc (own := [("way", 1)]) rfl sc_keepers_of.nd (ei_tup (ee_glob (v := .ref (He.ga K "WAYS")) (by rfl) h_WAYS rfl (fun _ I => .ktp (s_WAYS I) (RepL.strs _)))) (by rfl) (egb_mk fun _ _ _ _ _ => (eg_name (i := 1) sc_keepers_of.nd rfl (by first | exact .inl rfl | exact .inr rfl))) (etb_one fun _ _ _ _ _ => (et_val (ee_callB (cr_all rfl) sl_allB (by rfl) T.f_all (by decide +kernel) (ea_cons (ee_lc (own := [("one", 2)]) rfl sc_keepers_of.nd (ei_tup (ee_var 0)) (by rfl) (egb_mk fun _ _ _ _ _ => (eg_name (i := 2) sc_keepers_of.nd rfl (by first | exact .inl rfl | exact .inr rfl))) etb_nil (eeb_mk fun _ _ _ _ _ => (ee_cmp (cm_in hr) (ee_var 2) (ee_kget (by rfl) h_KEPT s_KEPT (ee_var 1))))) ea_nil)))) (eeb_mk fun _ _ _ _ _ => (ee_var 1)))))⟩), g, F.kp, b⟩
theorem sc_can_hold : FnScope ["wanted"] ["wanted"] (defScope s_can_hold) := ⟨rfl, rfl, rfl, by decide +kernel, rfl, by decide +kernel, by decide +kernel⟩
theorem ok_can_hold (T : Tx K w mg) (h : ∃ fd, FnP K "can_hold" s_can_hold (He.ga K "can_hold") fd) (g : mg "can_hold" = some (.ref (He.ga K "can_hold"))) (C_keepers_of : Cd P w K mg base 2 "keepers_of" 1 f_keepers_of) (C_need_promises : Cd P w K mg base 2 "need_promises" 1 f_need_promises) : Cd P w K mg base 3 "can_hold" 1 f_can_hold := by
  obtain ⟨fd, F⟩ := h
  have b : Binds K fd ["wanted"] [] := F.bindsN fun _ _ _ _ _ _ us hl => match us, hl with | [_], _ => rfl
  exact ⟨_, fd, ["wanted"], rfl, fn_ok (N := ["wanted"]) (k := 2) F sc_can_hold (dn := d_can_hold) (fun cdv A outer s H E hr => ⟨_, (ess_cons (es_expr (ee_call C_need_promises hr (by decide) (by rfl) (ea_cons (ee_var 0) ea_nil) (len_cons len_nil)))
    (ess_one (es_ret (ee_cmp (cm_ne hr) (ee_call C_keepers_of hr (by decide) (by rfl) (ea_cons (ee_var 0) ea_nil) (len_cons len_nil)) (ee_lst ea_nil)))))⟩), g, F.kp, b⟩
theorem sc_keepers : FnScope ["wanted"] ["wanted"] (defScope s_keepers) := ⟨rfl, rfl, rfl, by decide +kernel, rfl, by decide +kernel, by decide +kernel⟩
theorem ok_keepers (T : Tx K w mg) (h : ∃ fd, FnP K "keepers" s_keepers (He.ga K "keepers") fd) (g : mg "keepers" = some (.ref (He.ga K "keepers"))) (C_keepers_of : Cd P w K mg base 2 "keepers_of" 1 f_keepers_of) (C_need_promises : Cd P w K mg base 2 "need_promises" 1 f_need_promises) : Cd P w K mg base 3 "keepers" 1 f_keepers := by
  obtain ⟨fd, F⟩ := h
  have b : Binds K fd ["wanted"] [] := F.bindsN fun _ _ _ _ _ _ us hl => match us, hl with | [_], _ => rfl
  exact ⟨_, fd, ["wanted"], rfl, fn_ok (N := ["wanted"]) (k := 2) F sc_keepers (dn := d_keepers) (fun cdv A outer s H E hr => ⟨_, (ess_cons (es_expr (ee_call C_need_promises hr (by decide) (by rfl) (ea_cons (ee_var 0) ea_nil) (len_cons len_nil)))
    (ess_one (es_ret (ee_callT call_tupF sl_tuple (by rfl) T.f_tuple (by decide +kernel) (ea_cons (ee_call C_keepers_of hr (by decide) (by rfl) (ea_cons (ee_var 0) ea_nil) (len_cons len_nil)) ea_nil)))))⟩), g, F.kp, b⟩
theorem sc_least_clashes : FnScope [] [] (defScope s_least_clashes) := ⟨rfl, rfl, rfl, by decide +kernel, rfl, by decide +kernel, by decide +kernel⟩
theorem ok_least_clashes (T : Tx K w mg) (h : ∃ fd, FnP K "least_clashes" s_least_clashes (He.ga K "least_clashes") fd) (g : mg "least_clashes" = some (.ref (He.ga K "least_clashes")))  : Cd P w K mg base 2 "least_clashes" 0 f_least_clashes := by
  obtain ⟨h_CLASHES, s_CLASHES⟩ := T.c_CLASHES
  obtain ⟨fd, F⟩ := h
  have b : Binds K fd [] [] := F.bindsN fun _ _ _ _ _ _ us hl => match us, hl with | [], _ => rfl
  exact ⟨_, fd, [], rfl, fn_ok (N := []) (k := 1) F sc_least_clashes (dn := d_least_clashes) (fun cdv A outer s H E hr => ⟨_, (ess_one (es_ret (ee_glob (v := .ref (He.ga K "CLASHES")) (by rfl) h_CLASHES rfl (fun c I => s_CLASHES _ c I))))⟩), g, F.kp, b⟩
theorem sc_clashes : FnScope ["wanted", "some", "one"] ["wanted"] (defScope s_clashes) := ⟨rfl, rfl, rfl, by decide +kernel, rfl, by decide +kernel, by decide +kernel⟩
theorem ok_clashes (T : Tx K w mg) (h : ∃ fd, FnP K "clashes" s_clashes (He.ga K "clashes") fd) (g : mg "clashes" = some (.ref (He.ga K "clashes"))) (C_need_promises : Cd P w K mg base 2 "need_promises" 1 f_need_promises) : Cd P w K mg base 3 "clashes" 1 f_clashes := by
  obtain ⟨h_CLASHES, s_CLASHES⟩ := T.c_CLASHES
  obtain ⟨fd, F⟩ := h
  have b : Binds K fd ["wanted"] [] := F.bindsN fun _ _ _ _ _ _ us hl => match us, hl with | [_], _ => rfl
  exact ⟨_, fd, ["wanted"], rfl, fn_ok (N := ["wanted", "some", "one"]) (k := 2) F sc_clashes (dn := d_clashes) (fun cdv A outer s H E hr => ⟨_, (ess_cons (es_expr (ee_call C_need_promises hr (by decide) (by rfl) (ea_cons (ee_var 0) ea_nil) (len_cons len_nil)))
    (ess_one (es_ret (ee_callT call_tupF sl_tuple (by rfl) T.f_tuple (by decide +kernel) (ea_cons (ee_lc (own := [("some", 1)]) rfl sc_clashes.nd (ei_tup (ee_glob (v := .ref (He.ga K "CLASHES")) (by rfl) h_CLASHES rfl (fun c I => s_CLASHES _ c I))) (by rfl) (egb_mk fun _ _ _ _ _ => (eg_name (i := 1) sc_clashes.nd rfl (by first | exact .inl rfl | exact .inr rfl))) (etb_one fun _ _ _ _ _ => (et_val (ee_callB (cr_all rfl) sl_allB (by rfl) T.f_all (by decide +kernel) (ea_cons (ee_lc (own := [("one", 2)]) rfl sc_clashes.nd (ei_tup (ee_var 1)) (by rfl) (egb_mk fun _ _ _ _ _ => (eg_name (i := 2) sc_clashes.nd rfl (by first | exact .inl rfl | exact .inr rfl))) etb_nil (eeb_mk fun _ _ _ _ _ => (ee_cmp (cm_in hr) (ee_var 2) (ee_var 0)))) ea_nil)))) (eeb_mk fun _ _ _ _ _ => (ee_var 1))) ea_nil)))))⟩), g, F.kp, b⟩
theorem sc_is_within : FnScope ["one", "other", "promise"] ["one", "other"] (defScope s_is_within) := ⟨rfl, rfl, rfl, by decide +kernel, rfl, by decide +kernel, by decide +kernel⟩
theorem ok_is_within (T : Tx K w mg) (h : ∃ fd, FnP K "is_within" s_is_within (He.ga K "is_within") fd) (g : mg "is_within" = some (.ref (He.ga K "is_within")))  : Cd P w K mg base 2 "is_within" 2 f_is_within := by
  obtain ⟨fd, F⟩ := h
  have b : Binds K fd ["one", "other"] [] := F.bindsN fun _ _ _ _ _ _ us hl => match us, hl with | [_, _], _ => rfl
  exact ⟨_, fd, ["one", "other"], rfl, fn_ok (N := ["one", "other", "promise"]) (k := 1) F sc_is_within (dn := d_is_within) (fun cdv A outer s H E hr => ⟨_, (ess_one (es_ret (ee_callB (cr_all rfl) sl_allB (by rfl) T.f_all (by decide +kernel) (ea_cons (ee_lc (own := [("promise", 2)]) rfl sc_is_within.nd (ei_tup (ee_var 0)) (by rfl) (egb_mk fun _ _ _ _ _ => (eg_name (i := 2) sc_is_within.nd rfl (by first | exact .inl rfl | exact .inr rfl))) etb_nil (eeb_mk fun _ _ _ _ _ => (ee_cmp (cm_in hr) (ee_var 2) (ee_var 1)))) ea_nil))))⟩), g, F.kp, b⟩
theorem sc_greatest_sets : FnScope ["some", "way", "one", "other"] [] (defScope s_greatest_sets) := ⟨rfl, rfl, rfl, by decide +kernel, rfl, by decide +kernel, by decide +kernel⟩
theorem ok_greatest_sets (T : Tx K w mg) (h : ∃ fd, FnP K "greatest_sets" s_greatest_sets (He.ga K "greatest_sets") fd) (g : mg "greatest_sets" = some (.ref (He.ga K "greatest_sets"))) (C_is_within : Cd P w K mg base 2 "is_within" 2 f_is_within) : Cd P w K mg base 3 "greatest_sets" 0 f_greatest_sets := by
  obtain ⟨h_KEPT, s_KEPT⟩ := T.c_KEPT
  obtain ⟨h_WAYS, s_WAYS⟩ := T.c_WAYS
  obtain ⟨fd, F⟩ := h
  have b : Binds K fd [] [] := F.bindsN fun _ _ _ _ _ _ us hl => match us, hl with | [], _ => rfl
  exact ⟨_, fd, [], rfl, fn_ok (N := ["some", "way", "one", "other"]) (k := 2) F sc_greatest_sets (dn := d_greatest_sets) (fun cdv A outer s H E hr => ⟨_, (ess_cons (es_set (i := 0) sc_greatest_sets.nd rfl (.inr rfl) (ee_sortSet hr rfl (by rfl) T.f_sorted (by rfl) T.f_set (ee_lc (own := [("way", 1)]) rfl sc_greatest_sets.nd (ei_tup (ee_glob (v := .ref (He.ga K "WAYS")) (by rfl) h_WAYS rfl (fun _ I => .ktp (s_WAYS I) (RepL.strs _)))) (by rfl) (egb_mk fun _ _ _ _ _ => (eg_name (i := 1) sc_greatest_sets.nd rfl (by first | exact .inl rfl | exact .inr rfl))) etb_nil (eeb_mk fun _ _ _ _ _ => (ee_kget (by rfl) h_KEPT s_KEPT (ee_var 1))))))
    (ess_one (es_ret (ee_callT call_tupF sl_tuple (by rfl) T.f_tuple (by decide +kernel) (ea_cons (ee_lc (own := [("one", 2)]) rfl sc_greatest_sets.nd (ei_list (ee_var 0)) (by rfl) (egb_mk fun _ _ _ _ _ => (eg_name (i := 2) sc_greatest_sets.nd rfl (by first | exact .inl rfl | exact .inr rfl))) (etb_one fun _ _ _ _ _ => (et_not (et_val (ee_callB (cr_any rfl) sl_anyB (by rfl) T.f_any (by decide +kernel) (ea_cons (ee_lc (own := [("other", 3)]) rfl sc_greatest_sets.nd (ei_list (ee_var 0)) (by rfl) (egb_mk fun _ _ _ _ _ => (eg_name (i := 3) sc_greatest_sets.nd rfl (by first | exact .inl rfl | exact .inr rfl))) etb_nil (eeb_mk fun _ _ _ _ _ => (ee_and (ee_cmp (cm_ne hr) (ee_var 2) (ee_var 3)) (ee_one (ee_call C_is_within hr (by decide) (by rfl) (ea_cons (ee_var 2) (ea_cons (ee_var 3) ea_nil)) (len_cons (len_cons len_nil))))))) ea_nil))))) (eeb_mk fun _ _ _ _ _ => (ee_var 2))) ea_nil)))))⟩), g, F.kp, b⟩
theorem sc_can_add : FnScope ["wanted", "rest", "one"] ["wanted"] (defScope s_can_add) := ⟨rfl, rfl, rfl, by decide +kernel, rfl, by decide +kernel, by decide +kernel⟩
theorem ok_can_add (T : Tx K w mg) (h : ∃ fd, FnP K "can_add" s_can_add (He.ga K "can_add") fd) (g : mg "can_add" = some (.ref (He.ga K "can_add"))) (C_keepers_of : Cd P w K mg base 2 "keepers_of" 1 f_keepers_of) (C_need_promises : Cd P w K mg base 2 "need_promises" 1 f_need_promises) : Cd P w K mg base 3 "can_add" 1 f_can_add := by
  obtain ⟨h_PROMISES, s_PROMISES⟩ := T.c_PROMISES
  obtain ⟨fd, F⟩ := h
  have b : Binds K fd ["wanted"] [] := F.bindsN fun _ _ _ _ _ _ us hl => match us, hl with | [_], _ => rfl
  exact ⟨_, fd, ["wanted"], rfl, fn_ok (N := ["wanted", "rest", "one"]) (k := 2) F sc_can_add (dn := d_can_add) (fun cdv A outer s H E hr => ⟨_, (ess_cons (es_expr (ee_call C_need_promises hr (by decide) (by rfl) (ea_cons (ee_var 0) ea_nil) (len_cons len_nil)))
    (ess_cons (es_lc (i := 1) (own := [("one", 2)]) rfl sc_can_add.nd rfl rfl (sw_true rfl rfl rfl (by decide +kernel)) (ei_tup (ee_glob (v := .ref (He.ga K "PROMISES")) (by rfl) h_PROMISES rfl (fun _ I => .ktp (s_PROMISES I) (RepL.strs _)))) (by rfl) (egb_mk fun _ _ _ _ _ => (eg_name (i := 2) sc_can_add.nd rfl (by first | exact .inl rfl | exact .inr rfl))) (etb_one fun _ _ _ _ _ => (et_cmp (cm_nin hr) (ee_var 2) (ee_var 0))) (eeb_mk fun _ _ _ _ _ => (ee_var 2)))
    (ess_one (es_ret (ee_callT call_tupF sl_tuple (by rfl) T.f_tuple (by decide +kernel) (ea_cons (ee_lc (own := [("one", 2)]) rfl sc_can_add.nd (ei_list (ee_var 1)) (by rfl) (egb_mk fun _ _ _ _ _ => (eg_name (i := 2) sc_can_add.nd rfl (by first | exact .inl rfl | exact .inr rfl))) (etb_one fun _ _ _ _ _ => (et_cmp (cm_ne hr) (ee_call C_keepers_of hr (by decide) (by rfl) (ea_cons (ee_tup (ea_star (ee_var 0) (ea_cons (ee_var 2) ea_nil))) ea_nil) (len_cons len_nil)) (ee_lst ea_nil))) (eeb_mk fun _ _ _ _ _ => (ee_var 2))) ea_nil))))))⟩), g, F.kp, b⟩
theorem sc__law_taken : FnScope ["_law_row", "_law_many", "_law_found", "_law_cell"] ["_law_row", "_law_many"] (defScope s__law_taken) := ⟨rfl, rfl, rfl, by decide +kernel, rfl, by decide +kernel, by decide +kernel⟩
theorem ok__law_taken (T : Tx K w mg) (h : ∃ fd, FnP K "_law_taken" s__law_taken (He.ga K "_law_taken") fd) (g : mg "_law_taken" = some (.ref (He.ga K "_law_taken")))  : Cd P w K mg base 2 "_law_taken" 2 f__law_taken := by
  obtain ⟨fd, F⟩ := h
  have b : Binds K fd ["_law_row", "_law_many"] [] := F.bindsN fun _ _ _ _ _ _ us hl => match us, hl with | [_, _], _ => rfl
  exact ⟨_, fd, ["_law_row", "_law_many"], rfl, fn_ok (N := ["_law_row", "_law_many", "_law_found", "_law_cell"]) (k := 1) F sc__law_taken (dn := d__law_taken) (fun cdv A outer s H E hr => ⟨_, (ess_cons (es_if (et_cmp cm_gt (ee_rw (i := 0) (j := 3)) ee_int) (ess_cons (es_set (i := 2) sc__law_taken.nd rfl (.inl rfl) (ee_mod (ee_callT call_int1 sl_int (by rfl) T.f_int (by decide +kernel) (ea_cons (ee_rw (i := 0) (j := 3)) ea_nil)) (ee_var 1)))
    (ess_cons (es_rw (i := 0) (j := 3) (ee_fdiv (ee_rw (i := 0) (j := 3)) (ee_var 1)))
    (ess_one (es_ret (ee_var 2))))) ess_nil)
    (ess_cons (es_rw (i := 0) (j := 1) (ee_add (ee_rw (i := 0) (j := 1)) ee_int))
    (ess_cons (es_if (et_cmp cm_gt (ee_rw (i := 0) (j := 1)) (ee_callB call_len sl_len (by rfl) T.f_len (by decide +kernel) (ea_cons (ee_rw (i := 0) (j := 0)) ea_nil))) (ess_cons (es_rw (i := 0) (j := 2) (ee_mod (ee_callT call_int1 sl_int (by rfl) T.f_int (by decide +kernel) (ea_cons (ee_add (ee_mul (ee_rw (i := 0) (j := 2)) ee_int) ee_int) ea_nil)) ee_int))
    (ess_one (es_ret (ee_mod (ee_callT call_int1 sl_int (by rfl) T.f_int (by decide +kernel) (ea_cons (ee_fdiv (ee_rw (i := 0) (j := 2)) ee_int) ea_nil)) (ee_var 1))))) ess_nil)
    (ess_cons (es_set (i := 3) sc__law_taken.nd rfl (.inl rfl) (ee_ix (ee_rw (i := 0) (j := 0)) (ee_sub (ee_rw (i := 0) (j := 1)) ee_int)))
    (ess_cons (es_rw (i := 0) (j := 2) (ee_mod (ee_callT call_int1 sl_int (by rfl) T.f_int (by decide +kernel) (ea_cons (ee_add (ee_add (ee_mul (ee_rw (i := 0) (j := 2)) ee_int) (ee_var 3)) ee_int) ea_nil)) ee_int))
    (ess_cons (es_if (et_cmp cm_ge (ee_var 3) (ee_pow ee_int ee_int)) (ess_one (es_rw (i := 0) (j := 3) (ee_fdiv (ee_var 3) (ee_var 1)))) ess_nil)
    (ess_one (es_ret (ee_mod (ee_callT call_int1 sl_int (by rfl) T.f_int (by decide +kernel) (ea_cons (ee_var 3) ea_nil)) (ee_var 1))))))))))⟩), g, F.kp, b⟩
theorem sc__law_pick : FnScope ["_law_row", "_law_kinds"] ["_law_row", "_law_kinds"] (defScope s__law_pick) := ⟨rfl, rfl, rfl, by decide +kernel, rfl, by decide +kernel, by decide +kernel⟩
theorem ok__law_pick (T : Tx K w mg) (h : ∃ fd, FnP K "_law_pick" s__law_pick (He.ga K "_law_pick") fd) (g : mg "_law_pick" = some (.ref (He.ga K "_law_pick"))) (C__law_taken : Cd P w K mg base 2 "_law_taken" 2 f__law_taken) : Cd P w K mg base 3 "_law_pick" 2 f__law_pick := by
  obtain ⟨fd, F⟩ := h
  have b : Binds K fd ["_law_row", "_law_kinds"] [] := F.bindsN fun _ _ _ _ _ _ us hl => match us, hl with | [_, _], _ => rfl
  exact ⟨_, fd, ["_law_row", "_law_kinds"], rfl, fn_ok (N := ["_law_row", "_law_kinds"]) (k := 2) F sc__law_pick (dn := d__law_pick) (fun cdv A outer s H E hr => ⟨_, (ess_one (es_ret (ee_ix (ee_var 1) (ee_call C__law_taken hr (by decide) (by rfl) (ea_cons (ee_var 0) (ea_cons (ee_callB call_len sl_len (by rfl) T.f_len (by decide +kernel) (ea_cons (ee_var 1) ea_nil)) ea_nil)) (len_cons (len_cons len_nil))))))⟩), g, F.kp, b⟩
theorem sc__law_alike : FnScope ["_law_found", "_law_due", "_law_k"] ["_law_found", "_law_due"] (defScope s__law_alike) := ⟨rfl, rfl, rfl, by decide +kernel, rfl, by decide +kernel, by decide +kernel⟩
theorem ok__law_alike (T : Tx K w mg) (h : ∃ fd, FnP K "_law_alike" s__law_alike (He.ga K "_law_alike") fd) (g : mg "_law_alike" = some (.ref (He.ga K "_law_alike")))  : ∀ n : Nat, Cd P w K mg base (2 + n) "_law_alike" 2 (f__law_alike n) := by
  obtain ⟨fd, F⟩ := h
  have b : Binds K fd ["_law_found", "_law_due"] [] := F.bindsN fun _ _ _ _ _ _ us hl => match us, hl with | [_, _], _ => rfl
  intro n
  induction n with
  | zero => exact ⟨_, fd, ["_law_found", "_law_due"], rfl, fn_ok (N := ["_law_found", "_law_due", "_law_k"]) (k := 1) F sc__law_alike (dn := dNever) (fun cdv A outer s H E hr => ⟨_, ess_never⟩), g, F.kp, b⟩
  | succ n ih => exact ⟨_, fd, ["_law_found", "_law_due"], rfl, fn_ok (N := ["_law_found", "_law_due", "_law_k"]) (k := 2 + n) F sc__law_alike (dn := d__law_alike (f__law_alike n)) (fun cdv A outer s H E hr => ⟨_, (ess_cons (es_if (et_val (ee_isi2 (u := "tuple") (w := "list") (by decide) (by decide) (by rfl) T.f_isinstance (by rfl) T.f_tuple (by decide +kernel) (by rfl) T.f_list (by decide +kernel) (ee_var 1))) (ess_cons (es_if (EW.t (ew_or (et_not (et_val (ee_isi2 (u := "tuple") (w := "list") (by decide) (by decide) (by rfl) T.f_isinstance (by rfl) T.f_tuple (by decide +kernel) (by rfl) T.f_list (by decide +kernel) (ee_var 0)))) (ew_or1 (et_cmp (cm_ne hr) (ee_isi (u := "list") (by decide) (by rfl) T.f_isinstance (by rfl) T.f_list (by decide +kernel) (ee_var 0)) (ee_isi (u := "list") (by decide) (by rfl) T.f_isinstance (by rfl) T.f_list (by decide +kernel) (ee_var 1)))))) (ess_one (es_ret ee_bl)) ess_nil)
    (ess_cons (es_if (et_cmp (cm_ne hr) (ee_callB call_len sl_len (by rfl) T.f_len (by decide +kernel) (ea_cons (ee_var 0) ea_nil)) (ee_callB call_len sl_len (by rfl) T.f_len (by decide +kernel) (ea_cons (ee_var 1) ea_nil))) (ess_one (es_ret ee_bl)) ess_nil)
    (ess_one (es_ret (ee_cmp (cm_eq hr) (ee_lc (own := [("_law_k", 2)]) rfl sc__law_alike.nd (ei_rng1 (by rfl) T.f_range (ea_cons (ee_callB call_len sl_len (by rfl) T.f_len (by decide +kernel) (ea_cons (ee_var 1) ea_nil)) ea_nil)) (by rfl) (egb_mk fun _ _ _ _ _ => (eg_name (i := 2) sc__law_alike.nd rfl (by first | exact .inl rfl | exact .inr rfl))) (etb_one fun _ _ _ _ _ => (et_not (et_val (ee_call ih hr (by omega) (by rfl) (ea_cons (ee_ix (ee_var 0) (ee_var 2)) (ea_cons (ee_ix (ee_var 1) (ee_var 2)) ea_nil)) (len_cons (len_cons len_nil)))))) (eeb_mk fun _ _ _ _ _ => (ee_var 2))) (ee_lst ea_nil)))))) ess_nil)
    (ess_cons (es_if (EW.t (ew_or (et_isN (ee_var 1)) (ew_or1 (et_val (ee_isi (u := "str") (by decide) (by rfl) T.f_isinstance (by rfl) T.f_str (by decide +kernel) (ee_var 1)))))) (ess_one (es_ret (ee_and (ee_cmp (cm_eq hr) (ee_var 0) (ee_var 1)) (ee_one (ee_cmp (cm_eq hr) (ee_isi (u := "str") (by decide) (by rfl) T.f_isinstance (by rfl) T.f_str (by decide +kernel) (ee_var 0)) (ee_isi (u := "str") (by decide) (by rfl) T.f_isinstance (by rfl) T.f_str (by decide +kernel) (ee_var 1))))))) ess_nil)
    (ess_one (es_ret (ee_and (ee_isi (u := "int") (by decide) (by rfl) T.f_isinstance (by rfl) T.f_int (by decide +kernel) (ee_var 0)) (ee_and (ee_cmp (cm_eq hr) (ee_isi (u := "bool") (by decide) (by rfl) T.f_isinstance (by rfl) T.f_bool (by decide +kernel) (ee_var 0)) (ee_isi (u := "bool") (by decide) (by rfl) T.f_isinstance (by rfl) T.f_bool (by decide +kernel) (ee_var 1))) (ee_one (ee_cmp (cm_eq hr) (ee_var 0) (ee_var 1)))))))))⟩), g, F.kp, b⟩
theorem sc__law_is : FnScope ["_law_found", "_law_due"] ["_law_found", "_law_due"] (defScope s__law_is) := ⟨rfl, rfl, rfl, by decide +kernel, rfl, by decide +kernel, by decide +kernel⟩
theorem ok__law_is (T : Tx K w mg) (h : ∃ fd, FnP K "_law_is" s__law_is (He.ga K "_law_is") fd) (g : mg "_law_is" = some (.ref (He.ga K "_law_is")))  : Cd P w K mg base 2 "_law_is" 2 f__law_is := by
  obtain ⟨fd, F⟩ := h
  have b : Binds K fd ["_law_found", "_law_due"] [] := F.bindsN fun _ _ _ _ _ _ us hl => match us, hl with | [_, _], _ => rfl
  exact ⟨_, fd, ["_law_found", "_law_due"], rfl, fn_ok (N := ["_law_found", "_law_due"]) (k := 1) F sc__law_is (dn := d__law_is) (fun cdv A outer s H E hr => ⟨_, (ess_one (es_ret (ee_and (ee_isi (u := "bool") (by decide) (by rfl) T.f_isinstance (by rfl) T.f_bool (by decide +kernel) (ee_var 0)) (ee_one (ee_cmp (cm_eq hr) (ee_var 0) (ee_var 1))))))⟩), g, F.kp, b⟩
theorem sc__law_ways : FnScope [] [] (defScope s__law_ways) := ⟨rfl, rfl, rfl, by decide +kernel, rfl, by decide +kernel, by decide +kernel⟩
theorem ok__law_ways (T : Tx K w mg) (h : ∃ fd, FnP K "_law_ways" s__law_ways (He.ga K "_law_ways") fd) (g : mg "_law_ways" = some (.ref (He.ga K "_law_ways")))  : Cd P w K mg base 2 "_law_ways" 0 f__law_ways := by
  obtain ⟨fd, F⟩ := h
  have b : Binds K fd [] [] := F.bindsN fun _ _ _ _ _ _ us hl => match us, hl with | [], _ => rfl
  exact ⟨_, fd, [], rfl, fn_ok (N := []) (k := 1) F sc__law_ways (dn := d__law_ways) (fun cdv A outer s H E hr => ⟨_, (ess_one (es_ret (ee_lst (ea_cons ee_str (ea_cons ee_str (ea_cons ee_str (ea_cons ee_str (ea_cons ee_str (ea_cons ee_str (ea_cons ee_str (ea_cons ee_str (ea_cons ee_str (ea_cons ee_str (ea_cons ee_str (ea_cons ee_str (ea_cons ee_str ea_nil))))))))))))))))⟩), g, F.kp, b⟩
theorem sc__law_promises : FnScope [] [] (defScope s__law_promises) := ⟨rfl, rfl, rfl, by decide +kernel, rfl, by decide +kernel, by decide +kernel⟩
theorem ok__law_promises (T : Tx K w mg) (h : ∃ fd, FnP K "_law_promises" s__law_promises (He.ga K "_law_promises") fd) (g : mg "_law_promises" = some (.ref (He.ga K "_law_promises")))  : Cd P w K mg base 2 "_law_promises" 0 f__law_promises := by
  obtain ⟨fd, F⟩ := h
  have b : Binds K fd [] [] := F.bindsN fun _ _ _ _ _ _ us hl => match us, hl with | [], _ => rfl
  exact ⟨_, fd, [], rfl, fn_ok (N := []) (k := 1) F sc__law_promises (dn := d__law_promises) (fun cdv A outer s H E hr => ⟨_, (ess_one (es_ret (ee_lst (ea_cons ee_str (ea_cons ee_str (ea_cons ee_str (ea_cons ee_str (ea_cons ee_str (ea_cons ee_str (ea_cons ee_str (ea_cons ee_str (ea_cons ee_str (ea_cons ee_str ea_nil)))))))))))))⟩), g, F.kp, b⟩
theorem sc__law_keeps : FnScope ["_law_way", "_law_told", "_law_one"] ["_law_way"] (defScope s__law_keeps) := ⟨rfl, rfl, rfl, by decide +kernel, rfl, by decide +kernel, by decide +kernel⟩
theorem ok__law_keeps (T : Tx K w mg) (h : ∃ fd, FnP K "_law_keeps" s__law_keeps (He.ga K "_law_keeps") fd) (g : mg "_law_keeps" = some (.ref (He.ga K "_law_keeps")))  : Cd P w K mg base 2 "_law_keeps" 1 f__law_keeps := by
  obtain ⟨fd, F⟩ := h
  have b : Binds K fd ["_law_way"] [] := F.bindsN fun _ _ _ _ _ _ us hl => match us, hl with | [_], _ => rfl
  exact ⟨_, fd, ["_law_way"], rfl, fn_ok (N := ["_law_way", "_law_told", "_law_one"]) (k := 1) F sc__law_keeps (dn := d__law_keeps) (fun cdv A outer s H E hr => ⟨_, (ess_cons (es_own (i := 1) sc__law_keeps.nd rfl (.inl rfl) (ef_disp (ep_cons ee_str ee_str (ep_cons ee_str ee_str (ep_cons ee_str ee_str ep_nil)))))
    (ess_cons (es_for PassesOwn.never rfl (ei_list (ee_lst (ea_cons ee_str (ea_cons ee_str ea_nil)))) (eg_name (i := 2) sc__law_keeps.nd rfl (by first | exact .inl rfl | exact .inr rfl)) (ess_one (es_dput 1 hr (ee_var 1) (ee_var 2) ee_str)))
    (ess_cons (es_for PassesOwn.never rfl (ei_list (ee_lst (ea_cons ee_str (ea_cons ee_str ea_nil)))) (eg_name (i := 2) sc__law_keeps.nd rfl (by first | exact .inl rfl | exact .inr rfl)) (ess_cons (es_dput 1 hr (ee_var 1) (ee_add (ee_var 2) ee_str) ee_str)
    (ess_cons (es_dput 1 hr (ee_var 1) (ee_add ee_str (ee_var 2)) ee_str)
    (ess_one (es_dput 1 hr (ee_var 1) (ee_add ee_str (ee_var 2)) ee_str)))))
    (ess_cons (es_for PassesOwn.never rfl (ei_list (ee_lst (ea_cons ee_str (ea_cons ee_str ea_nil)))) (eg_name (i := 2) sc__law_keeps.nd rfl (by first | exact .inl rfl | exact .inr rfl)) (ess_one (es_dput 1 hr (ee_var 1) (ee_add ee_str (ee_var 2)) ee_str)))
    (ess_one (es_ret (ee_bmS PySem.F.slot_str_split PySem.F.type_str_split mt_split sm_split (ee_dgetO 1 hr (ee_var 1) (ee_var 0)) (ea_cons ee_str ea_nil))))))))⟩), g, F.kp, b⟩
theorem sc__law_words : FnScope ["_law_row", "_law_many", "_law_one"] ["_law_row", "_law_many"] (defScope s__law_words) := ⟨rfl, rfl, rfl, by decide +kernel, rfl, by decide +kernel, by decide +kernel⟩
theorem ok__law_words (T : Tx K w mg) (h : ∃ fd, FnP K "_law_words" s__law_words (He.ga K "_law_words") fd) (g : mg "_law_words" = some (.ref (He.ga K "_law_words"))) (C__law_promises : Cd P w K mg base 2 "_law_promises" 0 f__law_promises) (C__law_taken : Cd P w K mg base 2 "_law_taken" 2 f__law_taken) : Cd P w K mg base 3 "_law_words" 2 f__law_words := by
  obtain ⟨fd, F⟩ := h
  have b : Binds K fd ["_law_row", "_law_many"] [] := F.bindsN fun _ _ _ _ _ _ us hl => match us, hl with | [_, _], _ => rfl
  exact ⟨_, fd, ["_law_row", "_law_many"], rfl, fn_ok (N := ["_law_row", "_law_many", "_law_one"]) (k := 2) F sc__law_words (dn := d__law_words) (fun cdv A outer s H E hr => ⟨_, (ess_one (es_ret (ee_callT call_tupF sl_tuple (by rfl) T.f_tuple (by decide +kernel) (ea_cons (ee_lc (own := [("_law_one", 2)]) rfl sc__law_words.nd (ei_list (ee_call0 C__law_promises hr (by decide) (by rfl))) (by rfl) (egb_mk fun _ _ _ _ _ => (eg_name (i := 2) sc__law_words.nd rfl (by first | exact .inl rfl | exact .inr rfl))) (etb_one fun _ _ _ _ _ => (et_cmp (cm_eq hr) (ee_call C__law_taken hr (by decide) (by rfl) (ea_cons (ee_var 0) (ea_cons (ee_var 1) ea_nil)) (len_cons (len_cons len_nil))) ee_int)) (eeb_mk fun _ _ _ _ _ => (ee_var 2))) ea_nil))))⟩), g, F.kp, b⟩
theorem sc__law_clashes : FnScope ["_law_told", "_law_one"] [] (defScope s__law_clashes) := ⟨rfl, rfl, rfl, by decide +kernel, rfl, by decide +kernel, by decide +kernel⟩
theorem ok__law_clashes (T : Tx K w mg) (h : ∃ fd, FnP K "_law_clashes" s__law_clashes (He.ga K "_law_clashes") fd) (g : mg "_law_clashes" = some (.ref (He.ga K "_law_clashes")))  : Cd P w K mg base 2 "_law_clashes" 0 f__law_clashes := by
  obtain ⟨fd, F⟩ := h
  have b : Binds K fd [] [] := F.bindsN fun _ _ _ _ _ _ us hl => match us, hl with | [], _ => rfl
  exact ⟨_, fd, [], rfl, fn_ok (N := ["_law_told", "_law_one"]) (k := 1) F sc__law_clashes (dn := d__law_clashes) (fun cdv A outer s H E hr => ⟨_, (ess_cons (es_set (i := 0) sc__law_clashes.nd rfl (.inl rfl) (ee_lst (ea_cons ee_str (ea_cons ee_str (ea_cons ee_str (ea_cons ee_str (ea_cons ee_str (ea_cons ee_str (ea_cons ee_str ea_nil)))))))))
    (ess_cons (es_set (i := 0) sc__law_clashes.nd rfl (.inl rfl) (ee_add (ee_var 0) (ee_lst (ea_cons ee_str (ea_cons ee_str (ea_cons ee_str (ea_cons ee_str ea_nil)))))))
    (ess_one (es_ret (ee_lc (own := [("_law_one", 1)]) rfl sc__law_clashes.nd (ei_list (ee_add (ee_var 0) (ee_lst (ea_cons ee_str (ea_cons ee_str (ea_cons ee_str ea_nil)))))) (by rfl) (egb_mk fun _ _ _ _ _ => (eg_name (i := 1) sc__law_clashes.nd rfl (by first | exact .inl rfl | exact .inr rfl))) etb_nil (eeb_mk fun _ _ _ _ _ => (ee_callT call_tupF sl_tuple (by rfl) T.f_tuple (by decide +kernel) (ea_cons (ee_bmS PySem.F.slot_str_split PySem.F.type_str_split mt_split sm_split (ee_var 1) (ea_cons ee_str ea_nil)) ea_nil))))))))⟩), g, F.kp, b⟩
theorem sc__law_goes : FnScope ["_law_wanted", "_law_way", "_law_one"] ["_law_wanted"] (defScope s__law_goes) := ⟨rfl, rfl, rfl, by decide +kernel, rfl, by decide +kernel, by decide +kernel⟩
theorem ok__law_goes (T : Tx K w mg) (h : ∃ fd, FnP K "_law_goes" s__law_goes (He.ga K "_law_goes") fd) (g : mg "_law_goes" = some (.ref (He.ga K "_law_goes"))) (C__law_keeps : Cd P w K mg base 2 "_law_keeps" 1 f__law_keeps) (C__law_ways : Cd P w K mg base 2 "_law_ways" 0 f__law_ways) : Cd P w K mg base 3 "_law_goes" 1 f__law_goes := by
  obtain ⟨fd, F⟩ := h
  have b : Binds K fd ["_law_wanted"] [] := F.bindsN fun _ _ _ _ _ _ us hl => match us, hl with | [_], _ => rfl
  exact ⟨_, fd, ["_law_wanted"], rfl, fn_ok (N := ["_law_wanted", "_law_way", "_law_one"]) (k := 2) F sc__law_goes (dn := d__law_goes) (fun cdv A outer s H E hr => ⟨_, (ess_cons (es_for PassesOwn.never rfl (ei_list (ee_call0 C__law_ways hr (by decide) (by rfl))) (eg_name (i := 1) sc__law_goes.nd rfl (by first | exact .inl rfl | exact .inr rfl)) (ess_one (es_if (et_cmp (cm_eq hr) (ee_lc (own := [("_law_one", 2)]) rfl sc__law_goes.nd (ei_tup (ee_var 0)) (by rfl) (egb_mk fun _ _ _ _ _ => (eg_name (i := 2) sc__law_goes.nd rfl (by first | exact .inl rfl | exact .inr rfl))) (etb_one fun _ _ _ _ _ => (et_cmp (cm_nin hr) (ee_var 2) (ee_call C__law_keeps hr (by decide) (by rfl) (ea_cons (ee_var 1) ea_nil) (len_cons len_nil)))) (eeb_mk fun _ _ _ _ _ => (ee_var 2))) (ee_lst ea_nil)) (ess_one (es_ret ee_bl)) ess_nil)))
    (ess_one (es_ret ee_bl)))⟩), g, F.kp, b⟩
theorem sc_law : FnScope ["_law_script", "_law_row", "_law_turn", "_law_wanted", "_law_good", "_law_way", "_law_one", "_law_torn", "_law_some", "_law_rest", "_law_clash", "_law_at"] ["_law_script"] (defScope s_law) := ⟨rfl, rfl, rfl, by decide +kernel, rfl, by decide +kernel, by decide +kernel⟩
theorem ok_law (T : Tx K w mg) {fd : FuncData} (F : FnP K "law" s_law (He.ga K "law") fd) (C__law_alike : Cd P w K mg base 6 "_law_alike" 2 (f__law_alike 4)) (C__law_clashes : Cd P w K mg base 2 "_law_clashes" 0 f__law_clashes) (C__law_goes : Cd P w K mg base 3 "_law_goes" 1 f__law_goes) (C__law_is : Cd P w K mg base 2 "_law_is" 2 f__law_is) (C__law_keeps : Cd P w K mg base 2 "_law_keeps" 1 f__law_keeps) (C__law_pick : Cd P w K mg base 3 "_law_pick" 2 f__law_pick) (C__law_promises : Cd P w K mg base 2 "_law_promises" 0 f__law_promises) (C__law_taken : Cd P w K mg base 2 "_law_taken" 2 f__law_taken) (C__law_ways : Cd P w K mg base 2 "_law_ways" 0 f__law_ways) (C__law_words : Cd P w K mg base 3 "_law_words" 2 f__law_words) (C_can_add : Cd P w K mg base 3 "can_add" 1 f_can_add) (C_can_hold : Cd P w K mg base 3 "can_hold" 1 f_can_hold) (C_clashes : Cd P w K mg base 3 "clashes" 1 f_clashes) (C_greatest_sets : Cd P w K mg base 3 "greatest_sets" 0 f_greatest_sets) (C_keepers : Cd P w K mg base 3 "keepers" 1 f_keepers) (C_least_clashes : Cd P w K mg base 2 "least_clashes" 0 f_least_clashes)
    (hd : ∀ ns : List Int, ns.length ≤ 63 → ∃ s', d_law ((Sl.im (.sl ns) :: List.replicate 11 .un).set 1 (.im .rw)) ⟨0, 15603, 0, ns⟩ = some (.rt (.bl true) false, s')) :
    FnOk P w K mg base CX0 7 (He.ga K "law") fd ["_law_script"] (spLaw K) := by
  refine law_ok (N := ["_law_script", "_law_row", "_law_turn", "_law_wanted", "_law_good", "_law_way", "_law_one", "_law_torn", "_law_some", "_law_rest", "_law_clash", "_law_at"]) (k := 6) (i := 1) (b0 := 15603) (dn := d_law) F sc_law (st0 := (defBody s_law).headD (.Pass ⟨0, 0, 0, 0⟩)) (rest := (defBody s_law).tail) rfl (fun cdv A outer s H E hr => ⟨ps_set (i := 1) sc_law.nd rfl (.inl rfl) (pe_lst (pa_cons (pv 0) (pa_cons pe_int (pa_cons pe_int (pa_cons pe_int pa_nil))))), ⟨_, (ess_cons (es_for PassesOwn.never rfl (ei_rng1 (by rfl) T.f_range (ea_cons ee_int ea_nil)) (eg_name (i := 2) sc_law.nd rfl (by first | exact .inl rfl | exact .inr rfl)) (ess_cons (es_set (i := 3) sc_law.nd rfl (.inr rfl) (ee_call C__law_words hr (by decide) (by rfl) (ea_cons (ee_var 1) (ea_cons (ee_call C__law_pick hr (by decide) (by rfl) (ea_cons (ee_var 1) (ea_cons (ee_lst (ea_cons ee_int (ea_cons ee_int (ea_cons ee_int ea_nil)))) ea_nil)) (len_cons (len_cons len_nil))) ea_nil)) (len_cons (len_cons len_nil))))
    (ess_cons (es_lc (i := 4) (own := [("_law_way", 5)]) rfl sc_law.nd rfl rfl (sw_true rfl rfl rfl (by decide +kernel)) (ei_list (ee_call0 C__law_ways hr (by decide) (by rfl))) (by rfl) (egb_mk fun _ _ _ _ _ => (eg_name (i := 5) sc_law.nd rfl (by first | exact .inl rfl | exact .inr rfl))) (etb_one fun _ _ _ _ _ => (et_cmp (cm_eq hr) (ee_lc (own := [("_law_one", 6)]) rfl sc_law.nd (ei_tup (ee_var 3)) (by rfl) (egb_mk fun _ _ _ _ _ => (eg_name (i := 6) sc_law.nd rfl (by first | exact .inl rfl | exact .inr rfl))) (etb_one fun _ _ _ _ _ => (et_cmp (cm_nin hr) (ee_var 6) (ee_call C__law_keeps hr (by decide) (by rfl) (ea_cons (ee_var 5) ea_nil) (len_cons len_nil)))) (eeb_mk fun _ _ _ _ _ => (ee_var 6))) (ee_lst ea_nil))) (eeb_mk fun _ _ _ _ _ => (ee_var 5)))
    (ess_cons (es_lc (i := 7) (own := [("_law_some", 8)]) rfl sc_law.nd rfl rfl (sw_true rfl rfl rfl (by decide +kernel)) (ei_list (ee_call0 C__law_clashes hr (by decide) (by rfl))) (by rfl) (egb_mk fun _ _ _ _ _ => (eg_name (i := 8) sc_law.nd rfl (by first | exact .inl rfl | exact .inr rfl))) (etb_one fun _ _ _ _ _ => (et_cmp (cm_eq hr) (ee_lc (own := [("_law_one", 6)]) rfl sc_law.nd (ei_tup (ee_var 8)) (by rfl) (egb_mk fun _ _ _ _ _ => (eg_name (i := 6) sc_law.nd rfl (by first | exact .inl rfl | exact .inr rfl))) (etb_one fun _ _ _ _ _ => (et_cmp (cm_nin hr) (ee_var 6) (ee_var 3))) (eeb_mk fun _ _ _ _ _ => (ee_var 6))) (ee_lst ea_nil))) (eeb_mk fun _ _ _ _ _ => (ee_var 8)))
    (ess_cons (es_if (et_cmp (cm_ne hr) (ee_cmp (cm_eq hr) (ee_var 4) (ee_lst ea_nil)) (ee_cmp (cm_ne hr) (ee_var 7) (ee_lst ea_nil))) (ess_one (es_ret ee_bl)) ess_nil)
    (ess_cons (es_if (EW.t (ew_or (et_not (et_val (ee_call C__law_alike hr (by decide) (by rfl) (ea_cons (ee_call C_keepers hr (by decide) (by rfl) (ea_cons (ee_var 3) ea_nil) (len_cons len_nil)) (ea_cons (ee_callT call_tupF sl_tuple (by rfl) T.f_tuple (by decide +kernel) (ea_cons (ee_var 4) ea_nil)) ea_nil)) (len_cons (len_cons len_nil))))) (ew_or1 (et_not (et_val (ee_call C__law_is hr (by decide) (by rfl) (ea_cons (ee_call C_can_hold hr (by decide) (by rfl) (ea_cons (ee_var 3) ea_nil) (len_cons len_nil)) (ea_cons (ee_cmp (cm_ne hr) (ee_var 4) (ee_lst ea_nil)) ea_nil)) (len_cons (len_cons len_nil)))))))) (ess_one (es_ret ee_bl)) ess_nil)
    (ess_cons (es_lc (i := 9) (own := [("_law_one", 6)]) rfl sc_law.nd rfl rfl (sw_true rfl rfl rfl (by decide +kernel)) (ei_list (ee_call0 C__law_promises hr (by decide) (by rfl))) (by rfl) (egb_mk fun _ _ _ _ _ => (eg_name (i := 6) sc_law.nd rfl (by first | exact .inl rfl | exact .inr rfl))) (etb_one fun _ _ _ _ _ => (et_cmp (cm_nin hr) (ee_var 6) (ee_var 3))) (eeb_mk fun _ _ _ _ _ => (ee_var 6)))
    (ess_one (es_if (EW.t (ew_or (et_not (et_val (ee_call C__law_alike hr (by decide) (by rfl) (ea_cons (ee_call C_clashes hr (by decide) (by rfl) (ea_cons (ee_var 3) ea_nil) (len_cons len_nil)) (ea_cons (ee_callT call_tupF sl_tuple (by rfl) T.f_tuple (by decide +kernel) (ea_cons (ee_var 7) ea_nil)) ea_nil)) (len_cons (len_cons len_nil))))) (ew_or1 (et_not (et_val (ee_call C__law_alike hr (by decide) (by rfl) (ea_cons (ee_call C_can_add hr (by decide) (by rfl) (ea_cons (ee_var 3) ea_nil) (len_cons len_nil)) (ea_cons (ee_callT call_tupF sl_tuple (by rfl) T.f_tuple (by decide +kernel) (ea_cons (ee_lc (own := [("_law_one", 6)]) rfl sc_law.nd (ei_list (ee_var 9)) (by rfl) (egb_mk fun _ _ _ _ _ => (eg_name (i := 6) sc_law.nd rfl (by first | exact .inl rfl | exact .inr rfl))) (etb_one fun _ _ _ _ _ => (et_val (ee_call C__law_goes hr (by decide) (by rfl) (ea_cons (ee_add (ee_var 3) (ee_tup (ea_cons (ee_var 6) ea_nil))) ea_nil) (len_cons len_nil)))) (eeb_mk fun _ _ _ _ _ => (ee_var 6))) ea_nil)) ea_nil)) (len_cons (len_cons len_nil)))))))) (ess_one (es_ret ee_bl)) ess_nil)))))))))
    (ess_cons (es_if (et_not (et_val (ee_call C__law_alike hr (by decide) (by rfl) (ea_cons (ee_call0 C_least_clashes hr (by decide) (by rfl)) (ea_cons (ee_callT call_tupF sl_tuple (by rfl) T.f_tuple (by decide +kernel) (ea_cons (ee_call0 C__law_clashes hr (by decide) (by rfl)) ea_nil)) ea_nil)) (len_cons (len_cons len_nil))))) (ess_one (es_ret ee_bl)) ess_nil)
    (ess_cons (es_set (i := 8) sc_law.nd rfl (.inl rfl) (ee_lst (ea_cons ee_str (ea_cons ee_str (ea_cons ee_str (ea_cons ee_str (ea_cons ee_str (ea_cons ee_str ea_nil))))))))
    (ess_cons (es_if (et_not (et_val (ee_call C__law_alike hr (by decide) (by rfl) (ea_cons (ee_call0 C_greatest_sets hr (by decide) (by rfl)) (ea_cons (ee_callT call_tupF sl_tuple (by rfl) T.f_tuple (by decide +kernel) (ea_cons (ee_callB cr_sortedR sl_sortedR (by rfl) T.f_sorted (by decide +kernel) (ea_cons (ee_lc (own := [("_law_way", 5)]) rfl sc_law.nd (ei_list (ee_var 8)) (by rfl) (egb_mk fun _ _ _ _ _ => (eg_name (i := 5) sc_law.nd rfl (by first | exact .inl rfl | exact .inr rfl))) etb_nil (eeb_mk fun _ _ _ _ _ => (ee_callT call_tupF sl_tuple (by rfl) T.f_tuple (by decide +kernel) (ea_cons (ee_call C__law_keeps hr (by decide) (by rfl) (ea_cons (ee_var 5) ea_nil) (len_cons len_nil)) ea_nil)))) ea_nil)) ea_nil)) ea_nil)) (len_cons (len_cons len_nil))))) (ess_one (es_ret ee_bl)) ess_nil)
    (ess_cons (es_set (i := 10) sc_law.nd rfl (.inl rfl) (ee_call C__law_pick hr (by decide) (by rfl) (ea_cons (ee_var 1) (ea_cons (ee_call0 C__law_clashes hr (by decide) (by rfl)) ea_nil)) (len_cons (len_cons len_nil))))
    (ess_cons (es_set (i := 11) sc_law.nd rfl (.inl rfl) (ee_call C__law_taken hr (by decide) (by rfl) (ea_cons (ee_var 1) (ea_cons (ee_callB call_len sl_len (by rfl) T.f_len (by decide +kernel) (ea_cons (ee_var 10) ea_nil)) ea_nil)) (len_cons (len_cons len_nil))))
    (ess_one (es_ret (ee_and (ee_cmp cm_isB (ee_call C_can_hold hr (by decide) (by rfl) (ea_cons (ee_var 10) ea_nil) (len_cons len_nil)) ee_bl) (ee_one (ee_cmp cm_isB (ee_call C_can_hold hr (by decide) (by rfl) (ea_cons (ee_add (ee_sl (ee_var 10) eo_none (eo_some (ee_var 11))) (ee_sl (ee_var 10) (eo_some (ee_add (ee_var 11) ee_int)) eo_none)) ea_nil) (len_cons len_nil)) ee_bl)))))))))))⟩⟩) hd
end
end Rk03
end
set_option Elab.async false
set_option linter.all false
set_option maxRecDepth 100000
set_option maxHeartbeats 4000000
open PySem PySem.Spec PyProof.Rows L2 Dl
namespace Rk03
def dd (x : Str) (st : Stmt) : He.DefD := ⟨(x, none), x, x, defArgs st, defBody st, defScope st, [], []⟩
def fn : List He.DefD := [dd "need_promises" s_need_promises, dd "keepers_of" s_keepers_of, dd "can_hold" s_can_hold, dd "keepers" s_keepers, dd "least_clashes" s_least_clashes, dd "clashes" s_clashes, dd "is_within" s_is_within, dd "greatest_sets" s_greatest_sets, dd "can_add" s_can_add, dd "_law_taken" s__law_taken, dd "_law_pick" s__law_pick, dd "_law_alike" s__law_alike, dd "_law_is" s__law_is, dd "_law_ways" s__law_ways, dd "_law_promises" s__law_promises, dd "_law_keeps" s__law_keeps, dd "_law_words" s__law_words, dd "_law_clashes" s__law_clashes, dd "_law_goes" s__law_goes, dd "law" s_law]
def fa0 : List He.Fa := [.glo "need_promises", .glo "keepers_of", .glo "can_hold", .glo "keepers", .glo "least_clashes", .glo "clashes", .glo "is_within", .glo "greatest_sets", .glo "can_add", .glo "_law_taken", .glo "_law_pick", .glo "_law_alike", .glo "_law_is", .glo "_law_ways", .glo "_law_promises", .glo "_law_keeps", .glo "_law_words", .glo "_law_clashes", .glo "_law_goes", .glo "law", .free "all", .free "any", .free "bool", .free "int", .free "isinstance", .free "len", .free "list", .free "range", .free "set", .free "sorted"]
def fa1 : List He.Fa := [.free "str", .free "tuple", .free "zip", .glo "WAYS", .glo "PROMISES", .glo "KEPT", .glo "CLASHES"]
def fa : List He.Fa := fa0 ++ fa1
def ts : List He.Tab := [(fun K => He.ga K "KEPT", ["allow over", "always allow", "always deny", "both ends", "deny over", "first", "island", "last", "most or allow", "most or deny", "most or first", "most or last", "odd"])]
def ex (K : PySem.W.Frag) : Bool := He.tupB K "WAYS" (l_WAYS.map He.Dv.str) && (He.tupB K "PROMISES" (l_PROMISES.map He.Dv.str) && (ktabB K (He.ga K "KEPT") l_KEPT && (tabB K (He.ga K "CLASHES") l_CLASHES)))
theorem facts {P : Program} {w : World} {K : PySem.W.Frag} {h : Heap} {mg : Str → Option Value} {f : Addr} (X : K.In h) (G : h.Ns mainGlobals mg) (hfa : mg ("law" : Str) = some (.ref f)) (ct : He.SaysT fa fn ts w K) (hex : ex K = true) :
    ∃ fd : FuncData, (∀ (s : Shared) (v : Value), BindsTo s fd ⟨[v], []⟩ [("_law_script", v)]) ∧ ∀ base : Heap, K.In base → base.Ns mainGlobals mg → FnOk P w K mg base CX0 7 f fd ["_law_script"] (spLaw K) := by
  unfold ex at hex
  obtain ⟨e_WAYS, hex⟩ := He.ba hex
  obtain ⟨e_PROMISES, hex⟩ := He.ba hex
  obtain ⟨e_KEPT, hex⟩ := He.ba hex
  have e_CLASHES := hex
  have T : Tx K w mg := ⟨He.free_ok X G (ct.d.fact 20 (f := .free "all") rfl),
    He.free_ok X G (ct.d.fact 21 (f := .free "any") rfl),
    He.free_ok X G (ct.d.fact 22 (f := .free "bool") rfl),
    He.free_ok X G (ct.d.fact 23 (f := .free "int") rfl),
    He.free_ok X G (ct.d.fact 24 (f := .free "isinstance") rfl),
    He.free_ok X G (ct.d.fact 25 (f := .free "len") rfl),
    He.free_ok X G (ct.d.fact 26 (f := .free "list") rfl),
    He.free_ok X G (ct.d.fact 27 (f := .free "range") rfl),
    He.free_ok X G (ct.d.fact 28 (f := .free "set") rfl),
    He.free_ok X G (ct.d.fact 29 (f := .free "sorted") rfl),
    He.free_ok X G (ct.d.fact 30 (f := .free "str") rfl),
    He.free_ok X G (ct.d.fact 31 (f := .free "tuple") rfl),
    He.free_ok X G (ct.d.fact 32 (f := .free "zip") rfl),
    ⟨He.glo_ok X G (ct.d.fact 33 (f := .glo "WAYS") rfl), fun H => He.tupB_ok e_WAYS H⟩,
    ⟨He.glo_ok X G (ct.d.fact 34 (f := .glo "PROMISES") rfl), fun H => He.tupB_ok e_PROMISES H⟩,
    ⟨He.glo_ok X G (ct.d.fact 35 (f := .glo "KEPT") rfl), ktab_ok e_KEPT (ct.tab 0 (t := (fun K => He.ga K "KEPT", ["allow over", "always allow", "always deny", "both ends", "deny over", "first", "island", "last", "most or allow", "most or deny", "most or first", "most or last", "odd"])) rfl)⟩,
    ⟨He.glo_ok X G (ct.d.fact 36 (f := .glo "CLASHES") rfl), fun P c I => tab_ok e_CLASHES P w c I⟩⟩
  have e := hfa.symm.trans (He.glo_ok X G (ct.d.fact 19 (f := .glo "law") rfl))
  cases e
  have C_need_promises : ∀ base : Heap, Cd P w K mg base 2 "need_promises" 1 f_need_promises := fun base => ok_need_promises T (ct.d.def_ 0 (d := dd "need_promises" s_need_promises) rfl) (He.glo_ok X G (ct.d.fact 0 (f := .glo "need_promises") rfl)) 
  have C_keepers_of : ∀ base : Heap, Cd P w K mg base 2 "keepers_of" 1 f_keepers_of := fun base => ok_keepers_of T (ct.d.def_ 1 (d := dd "keepers_of" s_keepers_of) rfl) (He.glo_ok X G (ct.d.fact 1 (f := .glo "keepers_of") rfl)) 
  have C_can_hold : ∀ base : Heap, Cd P w K mg base 3 "can_hold" 1 f_can_hold := fun base => ok_can_hold T (ct.d.def_ 2 (d := dd "can_hold" s_can_hold) rfl) (He.glo_ok X G (ct.d.fact 2 (f := .glo "can_hold") rfl)) (C_keepers_of base) (C_need_promises base)
  have C_keepers : ∀ base : Heap, Cd P w K mg base 3 "keepers" 1 f_keepers := fun base => ok_keepers T (ct.d.def_ 3 (d := dd "keepers" s_keepers) rfl) (He.glo_ok X G (ct.d.fact 3 (f := .glo "keepers") rfl)) (C_keepers_of base) (C_need_promises base)
  have C_least_clashes : ∀ base : Heap, Cd P w K mg base 2 "least_clashes" 0 f_least_clashes := fun base => ok_least_clashes T (ct.d.def_ 4 (d := dd "least_clashes" s_least_clashes) rfl) (He.glo_ok X G (ct.d.fact 4 (f := .glo "least_clashes") rfl)) 
  have C_clashes : ∀ base : Heap, Cd P w K mg base 3 "clashes" 1 f_clashes := fun base => ok_clashes T (ct.d.def_ 5 (d := dd "clashes" s_clashes) rfl) (He.glo_ok X G (ct.d.fact 5 (f := .glo "clashes") rfl)) (C_need_promises base)
  have C_is_within : ∀ base : Heap, Cd P w K mg base 2 "is_within" 2 f_is_within := fun base => ok_is_within T (ct.d.def_ 6 (d := dd "is_within" s_is_within) rfl) (He.glo_ok X G (ct.d.fact 6 (f := .glo "is_within") rfl)) 
  have C_greatest_sets : ∀ base : Heap, Cd P w K mg base 3 "greatest_sets" 0 f_greatest_sets := fun base => ok_greatest_sets T (ct.d.def_ 7 (d := dd "greatest_sets" s_greatest_sets) rfl) (He.glo_ok X G (ct.d.fact 7 (f := .glo "greatest_sets") rfl)) (C_is_within base)
  have C_can_add : ∀ base : Heap, Cd P w K mg base 3 "can_add" 1 f_can_add := fun base => ok_can_add T (ct.d.def_ 8 (d := dd "can_add" s_can_add) rfl) (He.glo_ok X G (ct.d.fact 8 (f := .glo "can_add") rfl)) (C_keepers_of base) (C_need_promises base)
  have C__law_taken : ∀ base : Heap, Cd P w K mg base 2 "_law_taken" 2 f__law_taken := fun base => ok__law_taken T (ct.d.def_ 9 (d := dd "_law_taken" s__law_taken) rfl) (He.glo_ok X G (ct.d.fact 9 (f := .glo "_law_taken") rfl)) 
  have C__law_pick : ∀ base : Heap, Cd P w K mg base 3 "_law_pick" 2 f__law_pick := fun base => ok__law_pick T (ct.d.def_ 10 (d := dd "_law_pick" s__law_pick) rfl) (He.glo_ok X G (ct.d.fact 10 (f := .glo "_law_pick") rfl)) (C__law_taken base)
  have C__law_alike : ∀ base : Heap, Cd P w K mg base 6 "_law_alike" 2 (f__law_alike 4) := fun base => ok__law_alike T (ct.d.def_ 11 (d := dd "_law_alike" s__law_alike) rfl) (He.glo_ok X G (ct.d.fact 11 (f := .glo "_law_alike") rfl))  4
  have C__law_is : ∀ base : Heap, Cd P w K mg base 2 "_law_is" 2 f__law_is := fun base => ok__law_is T (ct.d.def_ 12 (d := dd "_law_is" s__law_is) rfl) (He.glo_ok X G (ct.d.fact 12 (f := .glo "_law_is") rfl)) 
  have C__law_ways : ∀ base : Heap, Cd P w K mg base 2 "_law_ways" 0 f__law_ways := fun base => ok__law_ways T (ct.d.def_ 13 (d := dd "_law_ways" s__law_ways) rfl) (He.glo_ok X G (ct.d.fact 13 (f := .glo "_law_ways") rfl)) 
  have C__law_promises : ∀ base : Heap, Cd P w K mg base 2 "_law_promises" 0 f__law_promises := fun base => ok__law_promises T (ct.d.def_ 14 (d := dd "_law_promises" s__law_promises) rfl) (He.glo_ok X G (ct.d.fact 14 (f := .glo "_law_promises") rfl)) 
  have C__law_keeps : ∀ base : Heap, Cd P w K mg base 2 "_law_keeps" 1 f__law_keeps := fun base => ok__law_keeps T (ct.d.def_ 15 (d := dd "_law_keeps" s__law_keeps) rfl) (He.glo_ok X G (ct.d.fact 15 (f := .glo "_law_keeps") rfl)) 
  have C__law_words : ∀ base : Heap, Cd P w K mg base 3 "_law_words" 2 f__law_words := fun base => ok__law_words T (ct.d.def_ 16 (d := dd "_law_words" s__law_words) rfl) (He.glo_ok X G (ct.d.fact 16 (f := .glo "_law_words") rfl)) (C__law_promises base) (C__law_taken base)
  have C__law_clashes : ∀ base : Heap, Cd P w K mg base 2 "_law_clashes" 0 f__law_clashes := fun base => ok__law_clashes T (ct.d.def_ 17 (d := dd "_law_clashes" s__law_clashes) rfl) (He.glo_ok X G (ct.d.fact 17 (f := .glo "_law_clashes") rfl)) 
  have C__law_goes : ∀ base : Heap, Cd P w K mg base 3 "_law_goes" 1 f__law_goes := fun base => ok__law_goes T (ct.d.def_ 18 (d := dd "_law_goes" s__law_goes) rfl) (He.glo_ok X G (ct.d.fact 18 (f := .glo "_law_goes") rfl)) (C__law_keeps base) (C__law_ways base)
  obtain ⟨fd, F⟩ := (ct.d.def_ 19 (d := dd "law" s_law) rfl)
  have b := FunD.bindsA (ps := ["_law_script"]) F fun _ _ _ _ _ _ us hl => match us, hl with | [_], _ => rfl
  refine ⟨fd, fun s v => b s [v] rfl, fun base _ _ => ok_law T F (C__law_alike base) (C__law_clashes base) (C__law_goes base) (C__law_is base) (C__law_keeps base) (C__law_pick base) (C__law_promises base) (C__law_taken base) (C__law_ways base) (C__law_words base) (C_can_add base) (C_can_hold base) (C_clashes base) (C_greatest_sets base) (C_keepers base) (C_least_clashes base) law_pure⟩
end Rk03
open PySem PySem.W PyProof.Rows
set_option maxHeartbeats 0 in
theorem PySem.Challenge.cw_rulevoices_k03_whole_maps_holds : PySem.Challenge.rw_rulevoices_k03_whole_maps.Holds := by
  w_on; o_law; k_head; (case hw => w_witness2)
  k_fill
  refine L2.walk_of (l := PySem.Challenge.rw_rulevoices_k03_whole_maps) (n := 63) (k := 7) (x := "_law_script") (CX := fun _ => L2.CX0) (sp := fun w => Dl.spLaw _) rfl (by decide) rfl ⟨rfl, by decide, by decide⟩ (fun w h Y => PySem.W.kIn_of Y) ?F (fun _ _ a ns hl _ hS => ⟨a, ns, rfl, hS, hl, fun _ => rfl⟩) (fun _ _ _ _ _ h => h)
  case F =>
    intro w mg fa h KX G hmg
    exact Rk03.facts KX G hmg (show He.obsT Rk03.fa Rk03.fn Rk03.ts _ = He.valT Rk03.fn Rk03.ts w by kernel_rfl) (by kernel_rfl)
