import PyProof.Rows.All
import Wide.All
import OpenK.AllK
import Wide.FinOn
import HandS.ForMost
import HandS.Defaults
import HandS.IsInst
import HandS.Star
import HandS.Deep
import HandS.TupAny
import HandS.Zip
import HandS.Lambda
import KE.KDflt
import HandS.Style
import KE.GoesEnum
import HandS.Iter
import KE.KRevSl
import PyProof.Rows.SumAny
import HandS.More
import HandS.SortInts
import HandS.HeadHook4
import HandS.Small
import HandS.Conv
import HandS.Strs
import KE.KDictKeyed
import HandS.MapObj
import PyProof.ListNew
import HandS.HotCalls
import HandS.ExcIs
import HandS.ExcCtx
import HandS.RaiseFrom
import HandS.TupMul
import HandS.SuiteRaise
import HandS.ExcField
import HandS.HeadHook1
import KE.KExcSuper
import HandS.ExcInit
import HandS.Property
import KE.KStateDown
import KE.KNestM
import KE.KLam
import HandS.EndTab
import HandS.HeadWalk
import HandS.HeadEnd
import HandS.Head2
import PySem.Challenge.RW_rulevoices_k09_whole_desks
section
set_option Elab.async false
set_option linter.all false
set_option maxRecDepth 100000
set_option maxHeartbeats 4000000
namespace Dl
open PySem PySem.Spec PyProof.Rows L2
open LamX (CodeO)

/-- what the program's run knows: its fixed objects, its text, its world -/
structure Kx where
  f : PySem.W.Frag
  P : Program
  w : World
instance : Coe Kx PySem.W.Frag := ⟨Kx.f⟩
abbrev _root_.L2.Cx.kx (X : Cx) : Kx := ⟨X.K, X.prog, X.w⟩
/-- the dict at a: its keys (tuples of texts, each with the object that bears it), its values -/
def DTo (P : Program) (w : World) (a : Addr) (ks : List (List Str × Addr)) (vs : List V) : HO := .ext fun h => (a == sysModules) = false ∧ ks.length ≤ sizeLine ∧ ∃ xs : List (List Key × Addr × Value),
  xs.map (fun x => (x.1, x.2.1)) = ks.map (fun k => (k.1.map Sum.inr, k.2)) ∧ Vals vs (xs.map fun x => x.2.2) ∧ ∃ o es ep, h.get? a = some o ∧ o.ExactDict ∧ o.data = .dict es ep ∧ es.toList = xs.map (entryOfKey (tupleKind (mixKind P w))) ∧ (xs.map fun x => x.1).Nodup
/-- a lambda's text -/
structure LamT where
  params : Arguments
  body : Expr
  scope : Scope
mutual
/-- the lambdas of a text, from the left -/
def lamsE : Nat → Expr → List LamT
  | n + 1, .Lambda ps b sc _ => [⟨ps, b, sc⟩]
  | n + 1, .Call f es _ _ => lamsE n f ++ lamsEs n es
  | n + 1, .List es _ => lamsEs n es
  | n + 1, .Tuple es _ _ => lamsEs n es
  | n + 1, .BinOp a _ b _ => lamsE n a ++ lamsE n b
  | n + 1, .Compare a _ es _ => lamsE n a ++ lamsEs n es
  | n + 1, .BoolOp _ es _ => lamsEs n es
  | n + 1, .UnaryOp _ a _ => lamsE n a
  | _, _ => []
def lamsEs : Nat → List Expr → List LamT
  | n + 1, e :: es => lamsE n e ++ lamsEs n es
  | _, _ => []
end
def lamsSs : Nat → List Stmt → List LamT
  | n + 1, .If t a b _ :: r => lamsE 40 t ++ (lamsSs n a ++ (lamsSs n b ++ lamsSs n r))
  | n + 1, .For _ _ a b _ :: r => lamsSs n a ++ (lamsSs n b ++ lamsSs n r)
  | n + 1, .Assign _ e _ :: r => lamsE 40 e ++ lamsSs n r
  | n + 1, .Return (some e) _ :: r => lamsE 40 e ++ lamsSs n r
  | n + 1, .Expr e _ :: r => lamsE 40 e ++ lamsSs n r
  | n + 1, _ :: r => lamsSs n r
  | _, _ => []
def lawBody : List Stmt → List Stmt
  | .FunctionDef x _ b _ _ _ _ _ _ _ :: r => if x == "law" then b else lawBody r
  | _ :: r => lawBody r
  | [] => []
/-- the n-th lambda of the law -/
def lamT (P : Program) (n : Nat) : Option LamT := (lamsSs 60 (lawBody P.main.body))[n]?
def lamQ : Str := "law.<locals>.<lambda>"
/-- the function object of a lambda -/
def LamO (a : Addr) (t : LamT) (cl : List (Str × Addr)) (c' : Addr) (dV : Value) : HO := .ext fun h => ∃ doc pm ctv : Value, h.get? a = some (PySem.W.kdv_obj "<lambda>" lamQ t.params (.expr t.body) t.scope (cloFrom cl t.scope.names []) dV doc pm c' ctv)
/-! data: what a value stands for -/
inductive D where
  | non | bl (b : Bool) | int (i : Int) | str (x : Str) | tup (xs : List D) | ktp (xs : List D) | lst (xs : List D)
  | dS (kvs : List (Str × D)) | dT (kvs : List (List Str × D)) | sl (ns : List Int) | rw | fn (v : V) | tb | clo (n : Nat) (cl : List (Str × Addr)) | exi (a d : Addr) (e : D) | dsk (C : Addr) (w r a : D)

/-- the draws' list: place, mix, rest; the script -/
structure Tau where
  a : Int
  b : Int
  c : Int
  ns : List Int

/-- the table of the law's lambdas: what it tells is known -/
def TabI (I H : Hp) (P : Addr) : Prop := ∃ ps : Array Value, H P = some (.tbl ps) ∧ TriplesOk ps.toList ∧ ∀ (pos : Pos) (cv : Value), codeAmong pos ps.toList = some cv → ∃ c, cv = .ref c ∧ I c = some (CodeO c lamQ)
def Sub (I H : Hp) : Prop := ∀ a o, I a = some o → H a = some o ∨ (((∃ kvs, o = HO.dK kvs) ∧ ∃ ob, H a = some (.frz ob o)) ∨ (o = .tbl #[] ∧ TabI I H a))
def Kp (c : Option Addr) (H H' : Hp) : Prop := ∀ a o, c ≠ some a → H a = some o → H' a = some o ∨ ((∃ ps, o = HO.tbl ps) ∧ ∃ ps, H' a = some (.tbl ps))
/-- not a table -/
def NT (o : HO) : Prop := ∀ ps, o ≠ .tbl ps
theorem nt_lst {xs : List V} : NT (.lst xs) := fun _ z => by cases z
theorem nt_dK {xs : List (Key × V)} : NT (.dK xs) := fun _ z => by cases z
theorem nt_frz {ob : Obj} {u : HO} : NT (.frz ob u) := fun _ z => by cases z
theorem Kp.get {c : Option Addr} {H H' : Hp} (k : Kp c H H') {a : Addr} {o : HO} (hc : c ≠ some a) (h : H a = some o) (n : NT o) : H' a = some o := by
  rcases k a o hc h with q | ⟨⟨ps, q⟩, _⟩
  · exact q
  · exact absurd q (n ps)
theorem Kp.there {c : Option Addr} {H H' : Hp} (k : Kp c H H') {a : Addr} (hc : c ≠ some a) (h : H' a = none) : H a = none := by
  cases q : H a with
  | none => rfl
  | some o =>
    rcases k a o hc q with z | ⟨_, _, z⟩
    · rw [h] at z; cases z
    · rw [h] at z; cases z

/-- a tuple's object, nothing beside it -/
def TupO (o : Obj) : Prop := o.cls = .type "tuple" ∧ o.dict = none

mutual
inductive Rep (K : Kx) (c : Option Addr) (I : Hp) : V → D → Prop
  | non : Rep K c I .non .non
  | bl (b : Bool) : Rep K c I (.bl b) (.bl b)
  | int (i : Int) : Rep K c I (.int i) (.int i)
  | str (x : Str) : Rep K c I (.str x) (.str x)
  | tup {a : Addr} {o : Obj} {xs : List V} {ds : List D} : I a = some (.frz o (.tup xs)) → TupO o → RepL K c I xs ds → Rep K c I (.ref a) (.tup ds)
  | ktp {a : Addr} {xs : List V} {ds : List D} : SqT K I a xs → RepL K c I xs ds → Rep K c I (.ref a) (.ktp ds)
  | lst {a : Addr} {xs : List V} {ds : List D} : I a = some (.lst xs) → RepL K c I xs ds → Rep K c I (.ref a) (.lst ds)
  | dS {a : Addr} {kvs : List (Key × V)} {es : List (Str × D)} : I a = some (.dK kvs) → RepS K c I kvs es → Rep K c I (.ref a) (.dS es)
  | dT {a : Addr} {ks : List (List Str × Addr)} {vs : List V} {es : List (List Str × D)} : I a = some (DTo K.P K.w a ks vs) → RepT K c I ks vs es → Rep K c I (.ref a) (.dT es)
  | sl {a : Addr} {ns : List Int} : SqL K I a (ns.map V.int) → Rep K c I (.ref a) (.sl ns)
  | rw {a : Addr} : c = some a → Rep K c I (.ref a) .rw
  | fn (v : V) : Rep K c I v (.fn v)
  | tb (a : Addr) : (∀ cp, PySem.W.tabIn K.f "law" = some cp → I cp.2 = some (.tbl #[])) → Rep K c I (.ref a) .tb
  | clo {a : Addr} {n : Nat} {cl : List (Str × Addr)} {c' : Addr} {dV : Value} {t : LamT} : lamT K.P n = some t → I a = some (LamO a t cl c' dV) → I c' = some (CodeO c' lamQ) → ((t.params.defaults = [] ∧ dV = .none) ∨ (t.params.defaults ≠ [] ∧ ∃ T, dV = .ref T ∧ I T = some (.tup [.int 0]))) → Rep K c I (.ref a) (.clo n cl)
  | exi {v : Addr} {dd : Addr} {x : V} {e : D} : I dd = some (.xd [("index", x)]) → Rep K c I x e → Rep K c I (.ref v) (.exi v dd e)
  | dsk {p C dx : Addr} {vw vr va : V} {w r a : D} : I p = some (.ins C dx [("_way", vw), ("_row", vr), ("_answer", va)]) → Rep K c I vw w → Rep K c I vr r → Rep K c I va a → Rep K c I (.ref p) (.dsk C w r a)
inductive RepL (K : Kx) (c : Option Addr) (I : Hp) : List V → List D → Prop
  | nil : RepL K c I [] []
  | cons {v : V} {d : D} {vs : List V} {ds : List D} : Rep K c I v d → RepL K c I vs ds → RepL K c I (v :: vs) (d :: ds)
inductive RepS (K : Kx) (c : Option Addr) (I : Hp) : List (Key × V) → List (Str × D) → Prop
  | nil : RepS K c I [] []
  | cons {v : V} {d : D} {k : Str} {vs : List (Key × V)} {ds : List (Str × D)} : Rep K c I v d → RepS K c I vs ds → RepS K c I ((.inr k, v) :: vs) ((k, d) :: ds)
inductive RepT (K : Kx) (c : Option Addr) (I : Hp) : List (List Str × Addr) → List V → List (List Str × D) → Prop
  | nil : RepT K c I [] [] []
  | cons {v : V} {d : D} {k : List Str} {b : Addr} {ks : List (List Str × Addr)} {vs : List V} {ds : List (List Str × D)} : SqT K I b (k.map V.str) → Rep K c I v d → RepT K c I ks vs ds → RepT K c I ((k, b) :: ks) (v :: vs) ((k, d) :: ds)
end

def D.asT : D → Option (List D)
  | .tup xs => some xs
  | .ktp xs => some xs
  | _ => none
theorem Sub.refl (I : Hp) : Sub I I := fun _ _ h => .inl h
theorem TabI.mono {I J H H' : Hp} {P : Addr} (t : TabI I H P) (s : ∀ a o, I a = some o → J a = some o) (e : H' P = H P) : TabI J H' P := by
  obtain ⟨ps, h1, h2, h3⟩ := t
  refine ⟨ps, e.trans h1, h2, fun pos cv hc => ?_⟩
  obtain ⟨c, e1, e2⟩ := h3 pos cv hc
  exact ⟨c, e1, s _ _ e2⟩
def Sb (I H : Hp) : Prop := ∀ a o, I a = some o → H a = some o
theorem Sb.refl (I : Hp) : Sb I I := fun _ _ h => h
theorem Sb.trans {I J H : Hp} (h : Sb I J) (g : Sb J H) : Sb I H := fun a o e => g a o (h a o e)
theorem Kp.refl (c : Option Addr) (I : Hp) : Kp c I I := fun _ _ _ h => .inl h
theorem Kp.trans {c : Option Addr} {I J H : Hp} (h : Kp c I J) (g : Kp c J H) : Kp c I H := fun a o n e => by
  rcases h a o n e with z | ⟨z, ps, q⟩
  · exact g a o n z
  · rcases g a _ n q with q2 | ⟨_, q2⟩
    · exact .inr ⟨z, ps, q2⟩
    · exact .inr ⟨z, q2⟩
theorem Kp.up {c : Option Addr} {I J : Hp} (h : Kp none I J) : Kp c I J := fun a o _ e => h a o (by simp) e
theorem sb_rd {I J : Hp} (h : Sb I J) {a : Addr} {u : HO} (r : Rd I a u) : Rd J a u := by
  rcases r with r | ⟨o, r⟩
  · exact .inl (h _ _ r)
  · exact .inr ⟨o, h _ _ r⟩
theorem sb_sqT {K : Kx} {I J : Hp} (h : Sb I J) {a : Addr} {xs : List V} (r : SqT K I a xs) : SqT K J a xs := r.elim (fun r => .inl (sb_rd h r)) .inr
theorem sb_sqL {K : Kx} {I J : Hp} (h : Sb I J) {a : Addr} {xs : List V} (r : SqL K I a xs) : SqL K J a xs := r.elim (fun r => .inl (sb_rd h r)) .inr

section
variable {K : Kx} {c : Option Addr} {I J : Hp}
mutual
theorem Rep.mono (h : Sb I J) : ∀ {v : V} {d : D}, Rep K c I v d → Rep K c J v d
  | _, _, .non => .non
  | _, _, .bl b => .bl b
  | _, _, .int b => .int b
  | _, _, .str b => .str b
  | _, _, .tup s z r => .tup (h _ _ s) z (RepL.mono h r)
  | _, _, .ktp s r => .ktp (sb_sqT h s) (RepL.mono h r)
  | _, _, .lst s r => .lst (h _ _ s) (RepL.mono h r)
  | _, _, .dS s r => .dS (h _ _ s) (RepS.mono h r)
  | _, _, .dT s r => .dT (h _ _ s) (RepT.mono h r)
  | _, _, .sl s => .sl (sb_sqL h s)
  | _, _, .rw e => .rw e
  | _, _, .fn v => .fn v
  | _, _, .tb v q => .tb v fun cp e => h _ _ (q cp e)
  | _, _, .clo e s z r => .clo e (h _ _ s) (h _ _ z) (r.imp id fun ⟨n, T, a, b⟩ => ⟨n, T, a, h _ _ b⟩)
  | _, _, .exi s r => .exi (h _ _ s) (Rep.mono h r)
  | _, _, .dsk s r1 r2 r3 => .dsk (h _ _ s) (Rep.mono h r1) (Rep.mono h r2) (Rep.mono h r3)
theorem RepL.mono (h : Sb I J) : ∀ {vs : List V} {ds : List D}, RepL K c I vs ds → RepL K c J vs ds
  | _, _, .nil => .nil
  | _, _, .cons a b => .cons (Rep.mono h a) (RepL.mono h b)
theorem RepS.mono (h : Sb I J) : ∀ {vs : List (Key × V)} {ds : List (Str × D)}, RepS K c I vs ds → RepS K c J vs ds
  | _, _, .nil => .nil
  | _, _, .cons a b => .cons (Rep.mono h a) (RepS.mono h b)
theorem RepT.mono (h : Sb I J) : ∀ {ks : List (List Str × Addr)} {vs : List V} {ds : List (List Str × D)}, RepT K c I ks vs ds → RepT K c J ks vs ds
  | _, _, _, .nil => .nil
  | _, _, _, .cons q a b => .cons (sb_sqT h q) (Rep.mono h a) (RepT.mono h b)
end
theorem RepL.length : ∀ {vs : List V} {ds : List D}, RepL K c I vs ds → vs.length = ds.length
  | _, _, .nil => rfl
  | _, _, .cons _ r => congrArg Nat.succ r.length
theorem RepL.get : ∀ {vs : List V} {ds : List D} {i : Nat} {d : D}, RepL K c I vs ds → ds[i]? = some d → ∃ v, vs[i]? = some v ∧ Rep K c I v d
  | _, _, _, _, .nil, e => by simp at e
  | _, _, 0, _, .cons a _, e => by simp at e; subst e; exact ⟨_, rfl, a⟩
  | _, _, i + 1, d, .cons _ r, e => by
    obtain ⟨v, h1, h2⟩ := RepL.get (i := i) (d := d) r (by simpa using e)
    exact ⟨v, by simpa using h1, h2⟩
theorem RepL.app : ∀ {vs ws : List V} {ds es : List D}, RepL K c I vs ds → RepL K c I ws es → RepL K c I (vs ++ ws) (ds ++ es)
  | _, _, _, _, .nil, s => s
  | _, _, _, _, .cons a r, s => .cons a (r.app s)
theorem RepL.take : ∀ {vs : List V} {ds : List D} (n : Nat), RepL K c I vs ds → RepL K c I (vs.take n) (ds.take n)
  | _, _, 0, _ => .nil
  | _, _, _ + 1, .nil => .nil
  | _, _, n + 1, .cons a r => .cons a (r.take n)
theorem RepL.drop : ∀ {vs : List V} {ds : List D} (n : Nat), RepL K c I vs ds → RepL K c I (vs.drop n) (ds.drop n)
  | _, _, 0, r => r
  | _, _, _ + 1, .nil => .nil
  | _, _, n + 1, .cons a r => r.drop n
theorem RepL.one {v : V} {d : D} (h : Rep K c I v d) : RepL K c I [v] [d] := .cons h .nil
theorem RepL.ints : ∀ (ns : List Int), RepL K c I (ns.map V.int) (ns.map D.int)
  | [] => .nil
  | n :: ns => .cons (.int n) (RepL.ints ns)
theorem RepL.rep {vs : List V} {ds : List D} (h : RepL K c I vs ds) : ∀ n : Nat, RepL K c I (List.replicate n vs).flatten (List.replicate n ds).flatten
  | 0 => .nil
  | n + 1 => by
    rw [List.replicate_succ, List.replicate_succ, List.flatten_cons, List.flatten_cons]
    exact h.app (h.rep n)
end

theorem Rep.asT {K : Kx} {c : Option Addr} {I : Hp} {v : V} {d : D} {ds : List D} (h : Rep K c I v d) (e : d.asT = some ds) : ∃ a xs, v = .ref a ∧ SqT K I a xs ∧ RepL K c I xs ds := by
  cases h with
  | tup h _ r => cases e; exact ⟨_, _, rfl, .inl (.inr ⟨_, h⟩), r⟩
  | ktp h r => cases e; exact ⟨_, _, rfl, h, r⟩
  | _ => cases e
/-- the draws' list as it stands -/
def DW (K : Kx) (c : Option Addr) (s : Tau) (I H : Hp) : Prop :=
  ∀ r, c = some r → I r = none ∧ ∃ sc, H r = some (.lst [.ref sc, .int s.a, .int s.b, .int s.c]) ∧ SqL K I sc (s.ns.map V.int)
/-- from one state to a later one -/
structure Gr (c : Option Addr) (I H I' H' : Hp) : Prop where
  s1 : Sb I I'
  s2 : Sub I' H'
  kp : Kp c H H'
  nw : ∀ a, I' a ≠ none → I a ≠ none ∨ H a = none
theorem Gr.refl {c : Option Addr} {I H : Hp} (s : Sub I H) : Gr c I H I H := ⟨.refl _, s, .refl _ _, fun _ h => .inl h⟩
theorem Gr.trans {c : Option Addr} {I H I1 H1 I2 H2 : Hp} (hc : ∀ r, c = some r → H r ≠ none → I1 r = none → H1 r ≠ none) (g : Gr c I H I1 H1) (k : Gr c I1 H1 I2 H2) : Gr c I H I2 H2 :=
  ⟨g.s1.trans k.s1, k.s2, g.kp.trans k.kp, fun a h => by
    rcases k.nw a h with h | h
    · exact g.nw a h
    · by_cases e : c = some a
      · by_cases q : H a = none
        · exact .inr q
        · by_cases z : I1 a = none
          · exact absurd h (hc a e q z)
          · exact g.nw a z
      · right
        exact g.kp.there e h⟩
theorem Gr.up {c : Option Addr} {I H I' H' : Hp} (g : Gr none I H I' H') : Gr c I H I' H' := ⟨g.s1, g.s2, g.kp.up, g.nw⟩
end Dl
end
section
set_option Elab.async false
set_option linter.all false
set_option maxRecDepth 100000
set_option maxHeartbeats 4000000
namespace Dl
open PySem PySem.Spec PyProof.Rows L2 StX

section
variable {K : Kx} {c : Option Addr} {I H I' H' I1 H1 I2 H2 : Hp} {s s1 s2 : Tau} {a p : Addr} {o : HO}
theorem Sub.get (h : Sub I H) (e : I a = some o) (n : ∀ kvs, o ≠ .dK kvs) (n2 : NT o := by intro _ z; cases z) : H a = some o := by
  rcases h a o e with q | ⟨⟨kvs, z⟩, _⟩ | ⟨z, _⟩
  · exact q
  · exact absurd z (n kvs)
  · exact absurd z (n2 _)
theorem Sub.updH (s : Sub I H) (hI : I p = none) : Sub I (upd H p o) := fun a u e => by
  have n : a ≠ p := ne_of_none e hI
  rcases s a u e with q | q | ⟨q1, q2⟩
  · exact .inl (by rw [upd_ne n]; exact q)
  · exact .inr (.inl (by rw [upd_ne n]; exact q))
  · exact .inr (.inr ⟨q1, q2.mono (fun _ _ z => z) (upd_ne n)⟩)
theorem Sub.lst {xs : List V} (h : Sub I H) (e : I a = some (.lst xs)) : H a = some (.lst xs) := h.get e fun _ z => by cases z
theorem Sub.tup {xs : List V} (h : Sub I H) (e : I a = some (.tup xs)) : H a = some (.tup xs) := h.get e fun _ z => by cases z
theorem Sub.dT {xs : List (List Key × V)} (h : Sub I H) (e : I a = some (.dT xs)) : H a = some (.dT xs) := h.get e fun _ z => by cases z
theorem Sub.dK {xs : List (Key × V)} (h : Sub I H) (e : I a = some (.dK xs)) : Rd H a (.dK xs) := by
  rcases h a _ e with q | ⟨_, q⟩ | ⟨z, _⟩
  · exact .inl q
  · exact .inr q
  · cases z
theorem Sub.rdT {xs : List V} (h : Sub I H) (e : Rd I a (.tup xs)) : Rd H a (.tup xs) := by
  rcases e with e | ⟨o, e⟩
  · exact .inl (h.get e fun _ z => by cases z)
  · exact .inr ⟨o, h.get e fun _ z => by cases z⟩
theorem Sub.rdL {xs : List V} (h : Sub I H) (e : Rd I a (.lst xs)) : Rd H a (.lst xs) := by
  rcases e with e | ⟨o, e⟩
  · exact .inl (h.get e fun _ z => by cases z)
  · exact .inr ⟨o, h.get e fun _ z => by cases z⟩
theorem Sub.sqT {xs : List V} (h : Sub I H) (e : SqT K I a xs) : SqT K H a xs := e.elim (fun e => .inl (h.rdT e)) .inr
theorem Sub.sqL {xs : List V} (h : Sub I H) (e : SqL K I a xs) : SqL K H a xs := e.elim (fun e => .inl (h.rdL e)) .inr
theorem Sub.free (h : Sub I H) (e : H a = none) : I a = none := by
  cases q : I a with
  | none => rfl
  | some o =>
    rcases h a o q with z | ⟨_, ob, z⟩ | ⟨_, _, z, _⟩
    · rw [e] at z; cases z
    · rw [e] at z; cases z
    · rw [e] at z; cases z
theorem Sub.updI (s : Sub I H) (hI : I p = none) (h : H p = some o) : Sub (upd I p o) H := fun a u e => by
  by_cases z : a = p
  · subst z; rw [upd_same] at e; cases e; exact .inl h
  · rw [upd_ne z] at e
    rcases s a u e with q | q | ⟨q1, q2⟩
    · exact .inl q
    · exact .inr (.inl q)
    · exact .inr (.inr ⟨q1, q2.mono (fun b _ y => by rw [upd_ne (ne_of_none y hI)]; exact y) rfl⟩)
theorem Kp.updH (k : Kp c H H1) (hp : H p = none) : Kp c H (upd H1 p o) := fun a u n e => by
  have ne := ne_of_none e hp
  rcases k a u n e with z | ⟨z, ps, q⟩
  · exact .inl (by rw [upd_ne ne]; exact z)
  · exact .inr ⟨z, ps, by rw [upd_ne ne]; exact q⟩
/-- an owned thing is written: what the callers know stays -/
theorem Kp.updO (k : Kp c H H1) (hp : H p = none) : Kp c H (upd H1 p o) := k.updH hp
theorem Kp.out (k : Kp c (upd H p o) H1) (hc : c ≠ some p) (hp : H p = none) : Kp c H H1 := fun a u n e => k a u n (by rw [upd_ne (ne_of_none e hp)]; exact e)
theorem Gr.new (s : Sub I H) (h : H p = none) : Gr none I H (upd I p o) (upd H p o) := by
  have hI := s.free h
  refine ⟨fun a u e => ?_, fun a u e => ?_, fun a u _ e => .inl ?_, fun a e => ?_⟩
  · rw [upd_ne (ne_of_none e hI)]; exact e
  · by_cases z : a = p
    · subst z; rw [upd_same] at e; exact .inl (by rw [upd_same]; exact e)
    · rw [upd_ne z] at e
      rcases s a u e with q | q | ⟨q1, q2⟩
      · exact .inl (by rw [upd_ne z]; exact q)
      · exact .inr (.inl (by rw [upd_ne z]; exact q))
      · exact .inr (.inr ⟨q1, q2.mono (fun b _ y => by rw [upd_ne (ne_of_none y hI)]; exact y) (upd_ne z)⟩)
  · rw [upd_ne (ne_of_none e h)]; exact e
  · by_cases z : a = p
    · subst z; exact .inr h
    · rw [upd_ne z] at e; exact .inl e
theorem DW.gr (w : DW K c s I H) (g : Gr none I H I' H') : DW K c s I' H' := fun r e => by
  obtain ⟨h1, sc, h2, h3⟩ := w r e
  refine ⟨?_, sc, g.kp.get (by simp) h2 nt_lst, sb_sqL g.s1 h3⟩
  cases q : I' r with
  | none => rfl
  | some o =>
    rcases g.nw r (by rw [q]; simp) with z | z
    · exact absurd h1 z
    · rw [h2] at z; cases z
theorem Gr.tr (g : Gr c I H I1 H1) (w : DW K c s I1 H1) (k : Gr c I1 H1 I2 H2) : Gr c I H I2 H2 :=
  g.trans (fun r e h1 h2 => by
    obtain ⟨_, sc, q, _⟩ := w r e
    rw [q]; simp) k

/-- slots -/
inductive Sl where
  | un | im (d : D) | ow (d : D)
inductive OwOk (K : Kx) (c : Option Addr) (I H : Hp) (p : Addr) : D → Prop
  | lst {vs : List V} {ds : List D} : H p = some (.lst vs) → RepL K c I vs ds → I p = none → c ≠ some p → OwOk K c I H p (.lst ds)
  | dS {vs : List (Key × V)} {ds : List (Str × D)} : H p = some (.dK vs) → RepS K c I vs ds → I p = none → c ≠ some p → OwOk K c I H p (.dS ds)
  | dsk {C dx : Addr} {vw vr va : V} {w r a : D} : H p = some (.ins C dx [("_way", vw), ("_row", vr), ("_answer", va)]) → Rep K c I vw w → Rep K c I vr r → Rep K c I va a → I p = none → c ≠ some p → OwOk K c I H p (.dsk C w r a)
inductive SlOk (K : Kx) (c : Option Addr) (I H : Hp) : Option V → Sl → Prop
  | un (o : Option V) : SlOk K c I H o .un
  | im {v : V} {d : D} : Rep K c I v d → SlOk K c I H (some v) (.im d)
  | ow {p : Addr} {d : D} : OwOk K c I H p d → SlOk K c I H (some (.ref p)) (.ow d)
inductive SlL (K : Kx) (c : Option Addr) (I H : Hp) : L2.St → List Sl → Prop
  | nil : SlL K c I H [] []
  | cons {o : Option V} {x : Sl} {σ : L2.St} {ρ : List Sl} : SlOk K c I H o x → SlL K c I H σ ρ → SlL K c I H (o :: σ) (x :: ρ)
/-- no two slots own one object -/
def Uq (σ : L2.St) (ρ : List Sl) : Prop := ∀ (i j : Nat) (p : Addr) (d e : D), i ≠ j → σ[i]? = some (some (V.ref p)) → σ[j]? = some (some (V.ref p)) → ρ[i]? = some (Sl.ow d) → ρ[j]? = some (Sl.ow e) → False
structure Ec (K : Kx) (c : Option Addr) (I H : Hp) (σ : L2.St) (ρ : List Sl) (s : Tau) : Prop where
  sub : Sub I H
  w : DW K c s I H
  sl : SlL K c I H σ ρ
  uq : Uq σ ρ
theorem OwOk.grow {d : D} (h : OwOk K c I H p d) (g : Gr c I H I' H') : OwOk K c I' H' p d := by
  have fr : ∀ {o}, H p = some o → I p = none → I' p = none := fun {o} h1 h2 => by
    cases q : I' p with
    | none => rfl
    | some u =>
      rcases g.nw p (by rw [q]; simp) with z | z
      · exact absurd h2 z
      · rw [h1] at z; cases z
  cases h with
  | lst h1 h2 h3 h4 => exact .lst (g.kp.get h4 h1 nt_lst) (h2.mono g.s1) (fr h1 h3) h4
  | dS h1 h2 h3 h4 => exact .dS (g.kp.get h4 h1 nt_dK) (h2.mono g.s1) (fr h1 h3) h4
  | dsk h1 r1 r2 r3 h3 h4 => exact .dsk (g.kp.get h4 h1 (fun ps z => by cases z)) (r1.mono g.s1) (r2.mono g.s1) (r3.mono g.s1) (fr h1 h3) h4
theorem SlOk.grow {v : Option V} {x : Sl} (h : SlOk K c I H v x) (g : Gr c I H I' H') : SlOk K c I' H' v x := by
  cases h with
  | un => exact .un _
  | im h => exact .im (h.mono g.s1)
  | ow h => exact .ow (h.grow g)
theorem SlL.grow (g : Gr c I H I' H') : ∀ {σ : L2.St} {ρ : List Sl}, SlL K c I H σ ρ → SlL K c I' H' σ ρ
  | _, _, .nil => .nil
  | _, _, .cons a r => .cons (a.grow g) (r.grow g)
theorem SlL.length : ∀ {σ : L2.St} {ρ : List Sl}, SlL K c I H σ ρ → σ.length = ρ.length
  | _, _, .nil => rfl
  | _, _, .cons _ r => congrArg Nat.succ r.length
theorem SlL.get : ∀ {σ : L2.St} {ρ : List Sl} {i : Nat} {x : Sl}, SlL K c I H σ ρ → ρ[i]? = some x → ∃ v, σ[i]? = some v ∧ SlOk K c I H v x
  | _, _, _, _, .nil, e => by simp at e
  | _, _, 0, _, .cons a _, e => by simp at e; subst e; exact ⟨_, rfl, a⟩
  | _, _, i + 1, x, .cons _ r, e => by
    obtain ⟨v, h1, h2⟩ := SlL.get (i := i) (x := x) r (by simpa using e)
    exact ⟨v, by simpa using h1, h2⟩
theorem SlL.set {v : Option V} {x : Sl} (h : SlOk K c I H v x) : ∀ {σ : L2.St} {ρ : List Sl} (i : Nat), SlL K c I H σ ρ → SlL K c I H (σ.set i v) (ρ.set i x)
  | _, _, _, .nil => .nil
  | _, _, 0, .cons _ r => .cons h r
  | _, _, i + 1, .cons a r => .cons a (SlL.set h i r)
theorem Ec.grow {σ : L2.St} {ρ : List Sl} (e : Ec K c I H σ ρ s) (g : Gr c I H I' H') (w : DW K c s1 I' H') : Ec K c I' H' σ ρ s1 := ⟨g.s2, w, e.sl.grow g, e.uq⟩
theorem Ec.imm {σ : L2.St} {ρ : List Sl} {i : Nat} {d : D} (e : Ec K c I H σ ρ s) (h : ρ[i]? = some (.im d)) : ∃ v, σ[i]? = some (some v) ∧ Rep K c I v d := by
  obtain ⟨v, h1, h2⟩ := e.sl.get h
  cases h2 with
  | im r => exact ⟨_, h1, r⟩
/-- a slot gets an unowned value -/
theorem Uq.setI {σ : L2.St} {ρ : List Sl} (h : Uq σ ρ) {i : Nat} {v : Option V} {x : Sl} (hx : ∀ d, x ≠ .ow d) : Uq (σ.set i v) (ρ.set i x) := fun k j p d e hne h1 h2 h3 h4 => by
  have ne : ∀ (m : Nat) (d : D), (ρ.set i x)[m]? = some (.ow d) → m ≠ i := fun m d q z => by
    subst z
    rw [List.getElem?_set] at q
    simp only [if_true] at q
    split at q
    · exact hx _ (Option.some.inj q)
    · cases q
  have n1 := ne _ _ h3
  have n2 := ne _ _ h4
  rw [List.getElem?_set_ne (Ne.symm n1)] at h1 h3
  rw [List.getElem?_set_ne (Ne.symm n2)] at h2 h4
  exact h k j p d e hne h1 h2 h3 h4
theorem Ec.setI {σ : L2.St} {ρ : List Sl} {v : V} {d : D} (e : Ec K c I H σ ρ s) (r : Rep K c I v d) (i : Nat) : Ec K c I H (σ.set i (some v)) (ρ.set i (.im d)) s :=
  ⟨e.sub, e.w, .set (.im r) i e.sl, e.uq.setI fun _ z => by cases z⟩
end

/-! what an expression means -/
abbrev Dn := List Sl → Tau → Option (D × Tau)
abbrev Dt := List Sl → Tau → Option (Bool × Tau)
abbrev Da := List Sl → Tau → Option (List D × Tau)
abbrev Do := List Sl → Tau → Option (Option Int × Tau)
def SndE (K : Kx) (te : TE) (dn : Dn) : Prop := ∀ c I H σ ρ s d s', Ec K c I H σ ρ s → dn ρ s = some (d, s') →
  ∀ Q : VK, (∀ v I' H', Gr c I H I' H' → DW K c s' I' H' → Rep K c I' v d → Q v H') → te σ H Q
def SndT (K : Kx) (te : TT) (dn : Dt) : Prop := ∀ c I H σ ρ s b s', Ec K c I H σ ρ s → dn ρ s = some (b, s') →
  ∀ Q : Bool → Hp → Prop, (∀ I' H', Gr c I H I' H' → DW K c s' I' H' → Q b H') → te σ H Q
def SndA (K : Kx) (te : TA) (dn : Da) : Prop := ∀ c I H σ ρ s ds s', Ec K c I H σ ρ s → dn ρ s = some (ds, s') →
  ∀ Q : List V → Hp → Prop, (∀ vs I' H', Gr c I H I' H' → DW K c s' I' H' → RepL K c I' vs ds → Q vs H') → te σ H Q
def SndO (K : Kx) (te : TO) (dn : Do) : Prop := ∀ c I H σ ρ s o s', Ec K c I H σ ρ s → dn ρ s = some (o, s') →
  ∀ Q : Option Int → Hp → Prop, (∀ I' H', Gr c I H I' H' → DW K c s' I' H' → Q o H') → te σ H Q
structure EE (X : Cx) (e : Expr) (te : TE) (dn : Dn) : Prop where
  p : PE X e te
  s : SndE X.kx te dn
structure ET (X : Cx) (e : Expr) (te : TT) (dn : Dt) : Prop where
  p : PT X e te
  s : SndT X.kx te dn
structure EA (X : Cx) (es : List Expr) (te : TA) (dn : Da) : Prop where
  p : PA X es te
  s : SndA X.kx te dn
structure EO (X : Cx) (e : Option Expr) (te : TO) (dn : Do) : Prop where
  p : PO X e te
  s : SndO X.kx te dn

/-- operations on data; nothing but new objects comes of them -/
def RQ (K : Kx) (c : Option Addr) (I H : Hp) (z : D) (Q : VK) : Prop := ∀ v I' H', Gr none I H I' H' → Rep K c I' v z → Q v H'
def Snd1 (K : Kx) (r : V → Hp → VK → Prop) (f : D → Option D) : Prop := ∀ c I H x d z, Sub I H → Rep K c I x d → f d = some z → ∀ Q, RQ K c I H z Q → r x H Q
def Snd2 (K : Kx) (r : R2) (f : D → D → Option D) : Prop := ∀ c I H x y d e z, Sub I H → Rep K c I x d → Rep K c I y e → f d e = some z → ∀ Q, RQ K c I H z Q → r x y H Q
def SndL (K : Kx) (r : List V → Hp → VK → Prop) (f : List D → Option D) : Prop := ∀ c I H xs ds z, Sub I H → RepL K c I xs ds → f ds = some z → ∀ Q, RQ K c I H z Q → r xs H Q
def SndM (K : Kx) (r : V → List V → Hp → VK → Prop) (f : D → List D → Option D) : Prop := ∀ c I H x d xs ds z, Sub I H → Rep K c I x d → RepL K c I xs ds → f d ds = some z → ∀ Q, RQ K c I H z Q → r x xs H Q
/-- the value itself, no new object -/
theorem RQ.val {K : Kx} {c : Option Addr} {I H : Hp} {z : D} {Q : VK} {v : V} (q : RQ K c I H z Q) (s : Sub I H) (r : Rep K c I v z) : Q v H := q v I H (.refl s) r
theorem RQ.tup {K : Kx} {c : Option Addr} {I H : Hp} {ds : List D} {vs : List V} {Q : VK} {p : Addr} {o : Obj} (q : RQ K c I H (.tup ds) Q) (s : Sub I H) (h : H p = none) (ho : TupO o) (r : RepL K c I vs ds) : Q (.ref p) (upd H p (.frz o (.tup vs))) :=
  q _ _ _ (.new s h) (.tup upd_same ho (r.mono (Gr.new (o := .frz o (.tup vs)) s h).s1))
theorem RQ.ktp {K : Kx} {c : Option Addr} {I H : Hp} {ds : List D} {vs : List V} {Q : VK} {p : Addr} (q : RQ K c I H (.ktp ds) Q) (s : Sub I H) (h : H p = none) (r : RepL K c I vs ds) : Q (.ref p) (upd H p (.tup vs)) :=
  q _ _ _ (.new s h) (.ktp (.of upd_same) (r.mono (Gr.new (o := .tup vs) s h).s1))
theorem RQ.lst {K : Kx} {c : Option Addr} {I H : Hp} {ds : List D} {vs : List V} {Q : VK} {p : Addr} (q : RQ K c I H (.lst ds) Q) (s : Sub I H) (h : H p = none) (r : RepL K c I vs ds) : Q (.ref p) (upd H p (.lst vs)) :=
  q _ _ _ (.new s h) (.lst upd_same (r.mono (Gr.new (o := .lst vs) s h).s1))

/-! the pieces -/
/-- a written tuple, its object known to bear nothing -/
def tTupF (t : TA) : TE := fun σ H Q => t σ H fun xs H1 => xs.length ≤ sizeLine ∧ ∀ (p : Addr) (o : Obj), H1 p = none → TupO o → Q (.ref p) (upd H1 p (.frz o (.tup xs)))
theorem pe_tupF {X : Cx} {es : List Expr} {k : Nat} {pos : Pos} {t : TA} (h : PA X es t) : PE X (.Tuple es k pos) (tTupF t) := by
  refine ⟨fun pins s σ H Q I hq => wpAny_Tuple_spliced (thn (h.run pos pins s σ H _ I hq) fun us s1 z => ?_)⟩
  obtain ⟨xs, H1, I1, r, z, q⟩ := z
  refine ⟨by rw [← r.length]; exact z, ?_⟩
  have hg : (s1.heap.push { cls := .type "tuple", data := .seq us.toArray }).get? s1.heap.objs.size = some { cls := .type "tuple", data := .seq us.toArray } := Heap.get?_push_size _ rfl
  have J : Inv X pins σ (upd H1 s1.heap.objs.size (.frz { cls := .type "tuple", data := .seq us.toArray } (.tup xs))) { s1 with heap := s1.heap.push { cls := .type "tuple", data := .seq us.toArray }, toks := s1.toks } :=
    I1.laid (t' := s1.toks) (fun _ _ e => Heap.get?_push_of_some _ e) (Nat.le_refl _) ⟨hg, z, us, r, _, hg, rfl, _, rfl⟩
  exact ⟨.ref _, _, J, rfl, q _ _ (I1.hok.fresh (Nat.le_refl _)) ⟨rfl, rfl⟩⟩
/-- tuple(a list or a tuple) -/
def rTupOf (K : Kx) : List V → Hp → VK → Prop := fun xs H Q => ∃ p ys, xs = [.ref p] ∧ ((SqL K H p ys ∧ ∀ (l : Addr) (o : Obj), H l = none → TupO o → Q (.ref l) (upd H l (.frz o (.tup ys)))) ∨ (SqT K H p ys ∧ Q (.ref p) H))
theorem call_tupF {X : Cx} : CallR X (.type "tuple") (rTupOf X.kx) := by
  intro pins s σ H xs us Q I r h
  obtain ⟨p, ys, rfl, h⟩ := h
  rcases h with ⟨hq, q⟩ | ⟨hq, q⟩
  · obtain ⟨u, rfl, rx⟩ := vals1 r
    obtain rfl : u = Value.ref p := rx
    obtain ⟨its, r', pl, hz⟩ := I.list hq
    have hlen := r'.length
    refine call_tuple_list pl.isList (fun h' kp => ?_) (by rw [List.size_toArray]; omega)
    have J : Inv X pins σ H { s with heap := h' } := I.kept (t' := s.toks) kp
    have hg : (h'.push { cls := .type "tuple", data := .seq its.toArray }).get? h'.objs.size = some { cls := .type "tuple", data := .seq its.toArray } := Heap.get?_push_size _ rfl
    have J2 : Inv X pins σ (upd H h'.objs.size (.frz { cls := .type "tuple", data := .seq its.toArray } (.tup ys))) { s with heap := h'.push { cls := .type "tuple", data := .seq its.toArray } } :=
      J.laid (t' := s.toks) (fun _ _ e => Heap.get?_push_of_some _ e) (Nat.le_refl _) ⟨hg, hz, its, r', _, hg, rfl, _, rfl⟩
    exact ⟨.ref _, _, J2, rfl, q _ _ (J.hok.fresh (Nat.le_refl _)) ⟨rfl, rfl⟩⟩
  · exact call_tuple_of pins s σ H _ us Q I r ⟨p, ys, rfl, .inr ⟨hq, q⟩⟩
/-- t.count(x), t a tuple whose object bears nothing -/
def tTCount (to te : TE) : TE := fun σ H Q => to σ H fun x H1 => ∃ (p : Addr) (o : Obj) (ys : List V), x = .ref p ∧ H1 p = some (.frz o (.tup ys)) ∧ TupO o ∧
  te σ H1 fun y H2 => H2 p = some (.frz o (.tup ys)) ∧ flatV y = true ∧ ys.all flatV = true ∧ Q (.int ((ys.countP fun z => eqV z y : Nat) : Int)) H2
theorem countP_eqU {x : V} : ∀ {xs : List V} {us : List Value}, Vals xs us → xs.all flatV = true → us.countP (eqU x) = xs.countP fun y => eqV y x
  | _, _, .nil, _ => rfl
  | y :: xs, u :: us, .cons r t, f => by
    rw [List.all_cons, Bool.and_eq_true] at f
    rw [List.countP_cons, List.countP_cons, eqU_of r f.1, countP_eqU t f.2]
theorem pe_tcount {X : Cx} {o e : Expr} {to te : TE} {apos cpos : Pos} (ho : PE X o to) (he : PE X e te) (hbase : attributeBase o "count" X.env (eval o X.env) = eval o X.env := by rfl) (hline : (apos.endLine == cpos.line) = true := by rfl)
    (hs : starEach [e] X.env = [(false, eval e X.env)] := by rfl) : PE X (.Call (.Attribute o "count" apos) [e] [] cpos) (tTCount to te) := by
  refine ⟨fun pins s σ H Q I h => wpAny_Call_method1_late hbase hline (by rw [hs]; rfl) (thn (ho.run pins s σ H _ I h) fun v s1 z => ?_)⟩
  obtain ⟨x, H1, I1, rx, p, ob, ys, rfl, hp, hto, hq⟩ := z
  obtain rfl : v = Value.ref p := rx
  have hg : s1.heap.get? p = some ob := (I1.hok p _ hp).1
  refine ⟨"tuple", "tuple.count", PySem.F.plainAttrs_tuple, PySem.F.slot_tuple_count, PySem.F.type_tuple_count, ⟨ob, hg, hto.1⟩, fun a ea => ?_, ?_⟩
  · cases ea
    exact ⟨ob, hg, hto.2⟩
  refine Calls.callWith_builtin rfl (Calls.evalArgs_plain ?_)
  refine Calls.spliced_cons (thn (he.run pins s1 σ H1 _ I1 hq) fun u s2 z => Calls.spliced_nil ?_)
  obtain ⟨y, H2, I2, ry, hp2, fy, fs, q⟩ := z
  obtain ⟨hg2, hz, its, r, hit⟩ := I2.hok p _ hp2
  obtain ⟨o2, h1, h2, n, h3⟩ := hit
  rw [hg2] at h1
  cases h1
  obtain ⟨cls, dd, dt, sl⟩ := ob
  simp only at h2 h3
  subst h2
  subst h3
  refine call_meets PySem.F.slot_tuple_count ⟨_, hg2, rfl⟩ PySem.F.entry_tuple_count (PySem.F.args_tuple_count_2 _ _) (SeqAt.tuple_countAt p its.toArray n dd sl u (eqU y)) ⟨hg2, fun w hw => mem_eqAt ry fy r fs w (by simpa using hw), ?_⟩
  rw [show its.toArray.toList = its from rfl, countP_eqU r fs]
  exact ⟨.int _, H2, I2.tok _, ⟨_, rfl⟩, q⟩

def dVar (i : Nat) : Dn := fun ρ s => match ρ[i]? with
  | some (.im d) => some (d, s)
  | _ => none
def dC (d : D) : Dn := fun _ s => some (d, s)
def dOp (f : D → D → Option D) (da db : Dn) : Dn := fun ρ s => (da ρ s).bind fun p => (db ρ p.2).bind fun q => (f p.1 q.1).map fun z => (z, q.2)
def dUn (f : D → Option D) (da : Dn) : Dn := fun ρ s => (da ρ s).bind fun p => (f p.1).map fun z => (z, p.2)
def dCallB (f : List D → Option D) (da : Da) : Dn := fun ρ s => (da ρ s).bind fun p => (f p.1).map fun z => (z, p.2)
def dMeth (f : D → List D → Option D) (dx : Dn) (da : Da) : Dn := fun ρ s => (dx ρ s).bind fun p => (da ρ p.2).bind fun q => (f p.1 q.1).map fun z => (z, q.2)
def dNil : Da := fun _ s => some ([], s)
def dCons (da : Dn) (dr : Da) : Da := fun ρ s => (da ρ s).bind fun p => (dr ρ p.2).map fun q => (p.1 :: q.1, q.2)
/-- the items of a list or tuple -/
def D.its : D → Option (List D)
  | .tup xs => some xs
  | .ktp xs => some xs
  | .lst xs => some xs
  | _ => none
theorem _root_.Dl.Rep.its {K : Kx} {c : Option Addr} {I : Hp} {v : V} {d : D} {ds : List D} (h : Rep K c I v d) (e : d.its = some ds) : ∃ a xs, v = .ref a ∧ (SqT K I a xs ∨ SqL K I a xs) ∧ RepL K c I xs ds := by
  cases h with
  | tup h _ r => cases e; exact ⟨_, _, rfl, .inl (.inl (.inr ⟨_, h⟩)), r⟩
  | ktp h r => cases e; exact ⟨_, _, rfl, .inl h, r⟩
  | lst h r => cases e; exact ⟨_, _, rfl, .inr (.of h), r⟩
  | _ => cases e
def dStar (da : Dn) (dr : Da) : Da := fun ρ s => (da ρ s).bind fun p => p.1.its.bind fun ds => (dr ρ p.2).map fun q => (ds ++ q.1, q.2)
def dTup (da : Da) : Dn := fun ρ s => (da ρ s).bind fun p => if p.1.length ≤ 1000000 then some (.tup p.1, p.2) else none
def dLst (da : Da) : Dn := fun ρ s => (da ρ s).bind fun p => if p.1.length ≤ 1000000 then some (.lst p.1, p.2) else none
def dB (da : Dn) : Dt := fun ρ s => (da ρ s).bind fun p => match p.1 with
  | .bl b => some (b, p.2)
  | _ => none
def dAnd (a b : Dt) : Dt := fun ρ s => (a ρ s).bind fun p => if p.1 = true then b ρ p.2 else some (false, p.2)
def dOr (a b : Dt) : Dt := fun ρ s => (a ρ s).bind fun p => if p.1 = true then some (true, p.2) else b ρ p.2
def dNot (a : Dt) : Dt := fun ρ s => (a ρ s).map fun p => (!p.1, p.2)
def dAndV (a b : Dn) : Dn := fun ρ s => (a ρ s).bind fun p => match p.1 with
  | .bl true => b ρ p.2
  | .bl false => some (.bl false, p.2)
  | _ => none
def dOrV (a b : Dn) : Dn := fun ρ s => (a ρ s).bind fun p => match p.1 with
  | .bl true => some (.bl true, p.2)
  | .bl false => b ρ p.2
  | _ => none
def dNotV (a : Dn) : Dn := fun ρ s => (a ρ s).bind fun p => match p.1 with
  | .bl b => some (.bl (!b), p.2)
  | _ => none
def dIf (t : Dt) (a b : Dn) : Dn := fun ρ s => (t ρ s).bind fun p => if p.1 = true then a ρ p.2 else b ρ p.2
def dChain (f g : D → D → Option D) (da db dc : Dn) : Dn := fun ρ s => (da ρ s).bind fun p => (db ρ p.2).bind fun q => (f p.1 q.1).bind fun z => match z with
  | .bl true => (dc ρ q.2).bind fun r => (g q.1 r.1).map fun z => (z, r.2)
  | .bl false => some (.bl false, q.2)
  | _ => none
def dNone : Do := fun _ s => some (none, s)
def dSome (da : Dn) : Do := fun ρ s => (da ρ s).bind fun p => match p.1 with
  | .int i => some (some i, p.2)
  | _ => none
def dSl (f : D → Option Int → Option Int → Option D) (da : Dn) (dl dh : Do) : Dn := fun ρ s => (da ρ s).bind fun p => (dl ρ p.2).bind fun l => (dh ρ l.2).bind fun h => (f p.1 l.1 h.1).map fun z => (z, h.2)
def SndSl (K : Kx) (r : V → Option Int → Option Int → Hp → VK → Prop) (f : D → Option Int → Option Int → Option D) : Prop := ∀ c I H x d lo hi z, Sub I H → Rep K c I x d → f d lo hi = some z → ∀ Q, RQ K c I H z Q → r x lo hi H Q

theorem bind_some_of {α β : Type} {o : Option α} {f : α → Option β} {z : β} (h : o.bind f = some z) : ∃ x, o = some x ∧ f x = some z := by
  cases o with
  | none => cases h
  | some x => exact ⟨x, rfl, h⟩
theorem map_some_of {α β : Type} {o : Option α} {f : α → β} {z : β} (h : o.map f = some z) : ∃ x, o = some x ∧ f x = z := by
  cases o with
  | none => cases h
  | some x => exact ⟨x, rfl, Option.some.inj h⟩

section
variable {K : Kx} {ta tb tc : TE} {da db dc : Dn} {tA tB' : TT} {bA bB : Dt} {tx : TA} {ax : Da}
theorem sn_var (i : Nat) : SndE K (tVar i) (dVar i) := fun c I H σ ρ s d s' e h Q q => by
  unfold dVar at h
  split at h
  · rename_i d' hd
    cases h
    obtain ⟨v, h1, r⟩ := e.imm hd
    exact ⟨v, h1, q v I H (.refl e.sub) e.w r⟩
  · cases h
theorem sn_c {v : V} {d : D} (r : ∀ c I, Rep K c I v d) : SndE K (tC v) (dC d) := fun c I H σ ρ s d' s' e h Q q => by
  cases h
  exact q v I H (.refl e.sub) e.w (r c I)
theorem sn_op {r : R2} {f : D → D → Option D} (ha : SndE K ta da) (hb : SndE K tb db) (hr : Snd2 K r f) : SndE K (tOp r ta tb) (dOp f da db) := fun c I H σ ρ s d s' e h Q q => by
  obtain ⟨⟨x, s1⟩, h1, h⟩ := bind_some_of h
  obtain ⟨⟨y, s2⟩, h2, h⟩ := bind_some_of h
  obtain ⟨z, h3, h⟩ := map_some_of h
  cases h
  refine ha _ _ _ _ _ _ _ _ e h1 _ fun v I1 H1 g1 w1 r1 => ?_
  refine hb _ _ _ _ _ _ _ _ (e.grow g1 w1) h2 _ fun u I2 H2 g2 w2 r2 => ?_
  refine hr _ _ _ _ _ _ _ _ g2.s2 (r1.mono g2.s1) r2 h3 _ fun t I3 H3 g3 r3 => ?_
  exact q t I3 H3 ((g1.tr w1 g2).tr w2 g3.up) (w2.gr g3) r3
theorem sn_un {r : V → Hp → VK → Prop} {f : D → Option D} (ha : SndE K ta da) (hr : Snd1 K r f) : SndE K (fun σ H Q => ta σ H fun x H1 => r x H1 Q) (dUn f da) := fun c I H σ ρ s d s' e h Q q => by
  obtain ⟨⟨x, s1⟩, h1, h⟩ := bind_some_of h
  obtain ⟨z, h3, h⟩ := map_some_of h
  cases h
  refine ha _ _ _ _ _ _ _ _ e h1 _ fun v I1 H1 g1 w1 r1 => ?_
  refine hr _ _ _ _ _ _ g1.s2 r1 h3 _ fun t I3 H3 g3 r3 => ?_
  exact q t I3 H3 (g1.tr w1 g3.up) (w1.gr g3) r3
theorem sn_callB {r : List V → Hp → VK → Prop} {f : List D → Option D} (ha : SndA K tx ax) (hr : SndL K r f) : SndE K (tCB r tx) (dCallB f ax) := fun c I H σ ρ s d s' e h Q q => by
  obtain ⟨⟨x, s1⟩, h1, h⟩ := bind_some_of h
  obtain ⟨z, h3, h⟩ := map_some_of h
  cases h
  refine ha _ _ _ _ _ _ _ _ e h1 _ fun v I1 H1 g1 w1 r1 => ?_
  refine hr _ _ _ _ _ _ g1.s2 r1 h3 _ fun t I3 H3 g3 r3 => ?_
  exact q t I3 H3 (g1.tr w1 g3.up) (w1.gr g3) r3
theorem sn_nil : SndA K tNil dNil := fun c I H σ ρ s d s' e h Q q => by
  cases h
  exact q [] I H (.refl e.sub) e.w .nil
theorem sn_cons (ha : SndE K ta da) (hx : SndA K tx ax) : SndA K (tCons ta tx) (dCons da ax) := fun c I H σ ρ s d s' e h Q q => by
  obtain ⟨⟨x, s1⟩, h1, h⟩ := bind_some_of h
  obtain ⟨⟨y, s2⟩, h2, h⟩ := map_some_of h
  cases h
  refine ha _ _ _ _ _ _ _ _ e h1 _ fun v I1 H1 g1 w1 r1 => ?_
  refine hx _ _ _ _ _ _ _ _ (e.grow g1 w1) h2 _ fun u I2 H2 g2 w2 r2 => ?_
  exact q _ I2 H2 (g1.tr w1 g2) w2 (.cons (r1.mono g2.s1) r2)
theorem sn_star (ha : SndE K ta da) (hx : SndA K tx ax) : SndA K (tStar K ta tx) (dStar da ax) := fun c I H σ ρ s d s' e h Q q => by
  obtain ⟨⟨x, s1⟩, h1, h⟩ := bind_some_of h
  obtain ⟨ds, hi, h⟩ := bind_some_of h
  obtain ⟨⟨y, s2⟩, h2, h⟩ := map_some_of h
  cases h
  refine ha _ _ _ _ _ _ _ _ e h1 _ fun v I1 H1 g1 w1 r1 => ?_
  obtain ⟨a, xs, rfl, hs, hr⟩ := r1.its hi
  refine ⟨a, xs, rfl, hs.elim (fun z => .inl (g1.s2.sqT z)) (fun z => .inr (g1.s2.sqL z)), ?_⟩
  refine hx _ _ _ _ _ _ _ _ (e.grow g1 w1) h2 _ fun u I2 H2 g2 w2 r2 => ?_
  exact q _ I2 H2 (g1.tr w1 g2) w2 ((hr.mono g2.s1).app r2)
theorem mil {n : Nat} (h : n ≤ 1000000) : n ≤ sizeLine := Nat.le_trans h (by decide)
theorem sn_tup (hx : SndA K tx ax) : SndE K (tTupF tx) (dTup ax) := fun c I H σ ρ s d s' e h Q q => by
  obtain ⟨⟨x, s1⟩, h1, h⟩ := bind_some_of h
  split at h
  · rename_i hl
    cases h
    refine hx _ _ _ _ _ _ _ _ e h1 _ fun vs I1 H1 g1 w1 r1 => ⟨mil (by rw [r1.length]; exact hl), fun p o hp ho => ?_⟩
    have g := Gr.new (o := .frz o (.tup vs)) g1.s2 hp
    exact q _ _ _ (g1.tr w1 g.up) (w1.gr g) (.tup upd_same ho (r1.mono g.s1))
  · cases h
theorem sn_lst (hx : SndA K tx ax) : SndE K (tLst tx) (dLst ax) := fun c I H σ ρ s d s' e h Q q => by
  obtain ⟨⟨x, s1⟩, h1, h⟩ := bind_some_of h
  split at h
  · rename_i hl
    cases h
    refine hx _ _ _ _ _ _ _ _ e h1 _ fun vs I1 H1 g1 w1 r1 => ⟨mil (by rw [r1.length]; exact hl), fun p hp => ?_⟩
    have g := Gr.new (o := .lst vs) g1.s2 hp
    exact q _ _ _ (g1.tr w1 g.up) (w1.gr g) (.lst upd_same (r1.mono g.s1))
  · cases h
theorem sn_B (ha : SndE K ta da) : SndT K (tB ta) (dB da) := fun c I H σ ρ s b s' e h Q q => by
  obtain ⟨⟨x, s1⟩, h1, h⟩ := bind_some_of h
  refine ha _ _ _ _ _ _ _ _ e h1 _ fun v I1 H1 g1 w1 r1 => ?_
  cases r1 with
  | bl k => cases h; exact ⟨_, rfl, q _ _ g1 w1⟩
  | _ => cases h
theorem sn_test (ha : SndE K ta da) : SndT K (tTest ta) (dB da) := fun c I H σ ρ s b s' e h Q q => by
  obtain ⟨⟨x, s1⟩, h1, h⟩ := bind_some_of h
  refine ha _ _ _ _ _ _ _ _ e h1 _ fun v I1 H1 g1 w1 r1 => ?_
  cases r1 with
  | bl k => cases h; exact ⟨_, rfl, q _ _ g1 w1⟩
  | _ => cases h
theorem sn_and (ha : SndT K tA bA) (hb : SndT K tB' bB) : SndT K (tAnd tA tB') (dAnd bA bB) := fun c I H σ ρ s b s' e h Q q => by
  obtain ⟨⟨x, s1⟩, h1, h⟩ := bind_some_of h
  refine ha _ _ _ _ _ _ _ _ e h1 _ fun I1 H1 g1 w1 => ?_
  cases x with
  | true => exact hb _ _ _ _ _ _ _ _ (e.grow g1 w1) h _ fun I2 H2 g2 w2 => q _ _ (g1.tr w1 g2) w2
  | false => cases h; exact q _ _ g1 w1
theorem sn_or (ha : SndT K tA bA) (hb : SndT K tB' bB) : SndT K (tOr tA tB') (dOr bA bB) := fun c I H σ ρ s b s' e h Q q => by
  obtain ⟨⟨x, s1⟩, h1, h⟩ := bind_some_of h
  refine ha _ _ _ _ _ _ _ _ e h1 _ fun I1 H1 g1 w1 => ?_
  cases x with
  | true => cases h; exact q _ _ g1 w1
  | false => exact hb _ _ _ _ _ _ _ _ (e.grow g1 w1) h _ fun I2 H2 g2 w2 => q _ _ (g1.tr w1 g2) w2
theorem sn_not (ha : SndT K tA bA) : SndT K (tNot tA) (dNot bA) := fun c I H σ ρ s b s' e h Q q => by
  obtain ⟨⟨x, s1⟩, h1, h⟩ := map_some_of h
  cases h
  exact ha _ _ _ _ _ _ _ _ e h1 _ fun I1 H1 g1 w1 => q _ _ g1 w1
theorem sn_andV (ha : SndE K ta da) (hb : SndE K tb db) : SndE K (tAndV ta tb) (dAndV da db) := fun c I H σ ρ s b s' e h Q q => by
  obtain ⟨⟨x, s1⟩, h1, h⟩ := bind_some_of h
  refine ha _ _ _ _ _ _ _ _ e h1 _ fun v I1 H1 g1 w1 r1 => ?_
  cases r1 with
  | bl k =>
    cases k with
    | true => exact ⟨_, rfl, hb _ _ _ _ _ _ _ _ (e.grow g1 w1) h _ fun v I2 H2 g2 w2 r2 => q _ _ _ (g1.tr w1 g2) w2 r2⟩
    | false => cases h; exact ⟨_, rfl, q _ _ _ g1 w1 (.bl _)⟩
  | _ => cases h
theorem sn_orV (ha : SndE K ta da) (hb : SndE K tb db) : SndE K (tOrV ta tb) (dOrV da db) := fun c I H σ ρ s b s' e h Q q => by
  obtain ⟨⟨x, s1⟩, h1, h⟩ := bind_some_of h
  refine ha _ _ _ _ _ _ _ _ e h1 _ fun v I1 H1 g1 w1 r1 => ?_
  cases r1 with
  | bl k =>
    cases k with
    | false => exact ⟨_, rfl, hb _ _ _ _ _ _ _ _ (e.grow g1 w1) h _ fun v I2 H2 g2 w2 r2 => q _ _ _ (g1.tr w1 g2) w2 r2⟩
    | true => cases h; exact ⟨_, rfl, q _ _ _ g1 w1 (.bl _)⟩
  | _ => cases h
theorem sn_notV (ha : SndE K ta da) : SndE K (tNotV ta) (dNotV da) := fun c I H σ ρ s b s' e h Q q => by
  obtain ⟨⟨x, s1⟩, h1, h⟩ := bind_some_of h
  refine ha _ _ _ _ _ _ _ _ e h1 _ fun v I1 H1 g1 w1 r1 => ?_
  cases r1 with
  | bl k => cases h; exact ⟨_, rfl, q _ _ _ g1 w1 (.bl _)⟩
  | _ => cases h
theorem sn_if (ht : SndT K tA bA) (ha : SndE K ta da) (hb : SndE K tb db) : SndE K (tIf tA ta tb) (dIf bA da db) := fun c I H σ ρ s b s' e h Q q => by
  obtain ⟨⟨x, s1⟩, h1, h⟩ := bind_some_of h
  refine ht _ _ _ _ _ _ _ _ e h1 _ fun I1 H1 g1 w1 => ?_
  cases x with
  | true => exact ha _ _ _ _ _ _ _ _ (e.grow g1 w1) h _ fun v I2 H2 g2 w2 r2 => q _ _ _ (g1.tr w1 g2) w2 r2
  | false => exact hb _ _ _ _ _ _ _ _ (e.grow g1 w1) h _ fun v I2 H2 g2 w2 r2 => q _ _ _ (g1.tr w1 g2) w2 r2
theorem sn_chain {r r' : R2} {f g : D → D → Option D} (ha : SndE K ta da) (hb : SndE K tb db) (hc : SndE K tc dc) (hr : Snd2 K r f) (hr' : Snd2 K r' g) : SndE K (tChain r r' ta tb tc) (dChain f g da db dc) := fun c I H σ ρ s d s' e h Q q => by
  obtain ⟨⟨x, s1⟩, h1, h⟩ := bind_some_of h
  obtain ⟨⟨y, s2⟩, h2, h⟩ := bind_some_of h
  obtain ⟨z, h3, h⟩ := bind_some_of h
  refine ha _ _ _ _ _ _ _ _ e h1 _ fun v I1 H1 g1 w1 r1 => ?_
  refine hb _ _ _ _ _ _ _ _ (e.grow g1 w1) h2 _ fun u I2 H2 g2 w2 r2 => ?_
  refine hr _ _ _ _ _ _ _ _ g2.s2 (r1.mono g2.s1) r2 h3 _ fun t I3 H3 g3 r3 => ?_
  have gg := (g1.tr w1 g2).tr w2 (g3.up (c := c))
  have w3 := w2.gr g3
  cases r3 with
  | bl k =>
    cases k with
    | true =>
      obtain ⟨⟨y3, s3⟩, h4, h⟩ := bind_some_of h
      obtain ⟨z, h5, h⟩ := map_some_of h
      cases h
      refine ⟨_, rfl, ?_⟩
      refine hc _ _ _ _ _ _ _ _ (e.grow gg w3) h4 _ fun u I4 H4 g4 w4 r4 => ?_
      refine hr' _ _ _ _ _ _ _ _ g4.s2 ((r2.mono g3.s1).mono g4.s1) r4 h5 _ fun t I5 H5 g5 r5 => ?_
      exact q t I5 H5 ((gg.tr w3 g4).tr w4 g5.up) (w4.gr g5) r5
    | false => cases h; exact ⟨_, rfl, q _ _ _ gg w3 (.bl _)⟩
  | _ => cases h
theorem sn_part (ha : SndE K ta da) : SndO K (tPart ta) (dSome da) := fun c I H σ ρ s d s' e h Q q => by
  obtain ⟨⟨x, s1⟩, h1, h⟩ := bind_some_of h
  refine ha _ _ _ _ _ _ _ _ e h1 _ fun v I1 H1 g1 w1 r1 => ?_
  cases r1 with
  | int k => cases h; exact ⟨_, rfl, q _ _ g1 w1⟩
  | _ => cases h
theorem sn_nopart : SndO K tNoPart dNone := fun c I H σ ρ s d s' e h Q q => by
  cases h
  exact q _ _ (.refl e.sub) e.w
theorem sn_sl {r : V → Option Int → Option Int → Hp → VK → Prop} {f : D → Option Int → Option Int → Option D} {tl th : TO} {dl dh : Do} (ha : SndE K ta da) (hl : SndO K tl dl) (hh : SndO K th dh) (hr : SndSl K r f) : SndE K (tSl r ta tl th) (dSl f da dl dh) := fun c I H σ ρ s d s' e h Q q => by
  obtain ⟨⟨x, s1⟩, h1, h⟩ := bind_some_of h
  obtain ⟨⟨l, s2⟩, h2, h⟩ := bind_some_of h
  obtain ⟨⟨u, s3⟩, h3, h⟩ := bind_some_of h
  obtain ⟨z, h4, h⟩ := map_some_of h
  cases h
  refine ha _ _ _ _ _ _ _ _ e h1 _ fun v I1 H1 g1 w1 r1 => ?_
  refine hl _ _ _ _ _ _ _ _ (e.grow g1 w1) h2 _ fun I2 H2 g2 w2 => ?_
  have g12 := g1.tr w1 g2
  refine hh _ _ _ _ _ _ _ _ (e.grow g12 w2) h3 _ fun I3 H3 g3 w3 => ?_
  refine hr _ _ _ _ _ _ _ _ g3.s2 ((r1.mono g2.s1).mono g3.s1) h4 _ fun t I5 H5 g5 r5 => ?_
  exact q t I5 H5 ((g12.tr w2 g3).tr w3 g5.up) (w3.gr g5) r5
end
end Dl
end
section
set_option Elab.async false
set_option linter.all false
set_option maxRecDepth 100000
set_option maxHeartbeats 4000000
namespace Dl
open PySem PySem.Spec PyProof.Rows L2 StX

/-! statements -/
inductive Rs where
  | nx (ρ : List Sl) | rt (d : D) (own : Bool) | bk (ρ : List Sl) | ct (ρ : List Sl)
abbrev Ds := List Sl → Tau → Option (Rs × Tau)
structure EnvS (K : Kx) (c : Option Addr) (I0 H0 I H : Hp) (σ : L2.St) (ρ : List Sl) (s : Tau) : Prop where
  env : Ec K c I H σ ρ s
  s0 : Sb I0 I
  kp : Kp c H0 H
  nw : ∀ a, I a ≠ none → I0 a ≠ none ∨ H0 a = none
  fr : ∀ (i : Nat) (p : Addr) (d : D), σ[i]? = some (some (V.ref p)) → ρ[i]? = some (Sl.ow d) → H0 p = none
  nc : ∀ r, c = some r → H0 r ≠ none
section
variable {K : Kx} {c : Option Addr} {I0 H0 I H I' H' I1 H1 : Hp} {σ : L2.St} {ρ : List Sl} {s s1 : Tau}
theorem EnvS.old (e : EnvS K c I0 H0 I H σ ρ s) {a : Addr} (h : H a = none) : H0 a = none := by
  by_cases z : c = some a
  · obtain ⟨_, sc, w, _⟩ := e.env.w a z
    rw [h] at w; cases w
  · exact e.kp.there z h
theorem EnvS.grow (e : EnvS K c I0 H0 I H σ ρ s) (g : Gr c I H I' H') (w : DW K c s1 I' H') : EnvS K c I0 H0 I' H' σ ρ s1 :=
  ⟨e.env.grow g w, e.s0.trans g.s1, e.kp.trans g.kp, fun a h => by
    rcases g.nw a h with z | z
    · exact e.nw a z
    · exact .inr (e.old z), e.fr, e.nc⟩
/-- more known at the start -/
theorem EnvS.reb (e : EnvS K c I0 H0 I H σ ρ s) (s0 : Sb I0 I1) (sb : Sb I1 I) : EnvS K c I1 H0 I H σ ρ s :=
  ⟨e.env, sb, e.kp, fun a h => (e.nw a h).imp (fun z => by
    cases q : I0 a with
    | none => exact absurd q z
    | some o => rw [s0 a o q]; simp) id, e.fr, e.nc⟩
theorem EnvS.back (e : EnvS K c I1 H0 I H σ ρ s) (s0 : Sb I0 I1) (n : ∀ a, I1 a ≠ none → I0 a ≠ none ∨ H0 a = none) : EnvS K c I0 H0 I H σ ρ s :=
  ⟨e.env, s0.trans e.s0, e.kp, fun a h => (e.nw a h).elim (n a) .inr, e.fr, e.nc⟩
theorem Gr.back (e : Gr c I1 H0 I H) (s0 : Sb I0 I1) (n : ∀ a, I1 a ≠ none → I0 a ≠ none ∨ H0 a = none) : Gr c I0 H0 I H :=
  ⟨s0.trans e.s1, e.s2, e.kp, fun a h => (e.nw a h).elim (n a) .inr⟩
theorem EnvS.gr (e : EnvS K c I0 H0 I H σ ρ s) : Gr c I0 H0 I H := ⟨e.s0, e.env.sub, e.kp, e.nw⟩
end

def Fin (K : Kx) (c : Option Addr) (I0 H0 : Hp) (s : Tau) (D : Ends) : Rs → Prop
  | .nx ρ => ∀ σ I H, EnvS K c I0 H0 I H σ ρ s → D.nx σ H
  | .rt d false => ∀ v I H, Gr c I0 H0 I H → DW K c s I H → Rep K c I v d → D.rt v H
  | .rt d true => ∀ p I H, Gr c I0 H0 I H → DW K c s I H → OwOk K c I H p d → H0 p = none → D.rt (.ref p) H
  | .bk ρ => ∀ σ I H, EnvS K c I0 H0 I H σ ρ s → D.bk σ H
  | .ct ρ => ∀ σ I H, EnvS K c I0 H0 I H σ ρ s → D.ct σ H
def SndS (K : Kx) (ts : TS) (dn : Ds) : Prop := ∀ c I0 H0 I H σ ρ s o s', EnvS K c I0 H0 I H σ ρ s → dn ρ s = some (o, s') →
  ∀ D : Ends, Fin K c I0 H0 s' D o → ts D σ H
/-- targets: js the slots that are stored -/
abbrev Dg := D → List Sl → Option (List Sl)
def SndG (K : Kx) (g : TG) (dg : Dg) (js : List Nat) : Prop := ∀ c I H v d σ ρ s ρ', Ec K c I H σ ρ s → Rep K c I v d → dg d ρ = some ρ' →
  ∀ Q : L2.St → Hp → Prop, (∀ σ', Ec K c I H σ' ρ' s → σ'.length = σ.length → (∀ k, k ∉ js → σ'[k]? = σ[k]?) → (∀ (i : Nat) (p : Addr) (d : D), σ'[i]? = some (some (V.ref p)) → ρ'[i]? = some (Sl.ow d) → σ[i]? = some (some (V.ref p)) ∧ ρ[i]? = some (Sl.ow d)) → Q σ' H) → g v σ H Q
/-- what is walked -/
def Yl (K : Kx) (c : Option Addr) (J : It) (I : Hp) (xs : List D) : Prop := ∀ I2 H2, Sb I I2 → Sub I2 H2 →
  (∀ (i : Nat) (d : D), xs[i]? = some d → J.go i H2 ∧ ∀ x H3, J.yld i H2 x H3 → ∃ I3, Gr none I2 H2 I3 H3 ∧ Rep K c I3 x d) ∧ J.stop xs.length H2
def SndI (K : Kx) (wi : TI) (dn : Da) : Prop := ∀ c I H σ ρ s xs s', Ec K c I H σ ρ s → dn ρ s = some (xs, s') →
  ∀ R : It → Hp → Prop, (∀ J I' H', Gr c I H I' H' → DW K c s' I' H' → Yl K c J I' xs → R J H') → wi σ H R
structure ES (X : Cx) (st : Stmt) (ts : TS) (dn : Ds) : Prop where
  p : PS X st ts
  s : SndS X.kx ts dn
structure ESs (X : Cx) (st : List Stmt) (ts : TS) (dn : Ds) : Prop where
  p : PSs X st ts
  s : SndS X.kx ts dn
structure EG (X : Cx) (e : Expr) (g : TG) (dg : Dg) (js : List Nat) : Prop where
  p : PG X e g
  s : SndG X.kx g dg js
structure EGs (X : Cx) (e : List Expr) (g : TGs) (dg : List D → List Sl → Option (List Sl)) (js : List Nat) : Prop where
  p : PGs X e g
  s : ∀ c I H vs ds σ ρ s ρ', Ec X.kx c I H σ ρ s → RepL X.kx c I vs ds → dg ds ρ = some ρ' →
    ∀ Q : L2.St → Hp → Prop, (∀ σ', Ec X.kx c I H σ' ρ' s → σ'.length = σ.length → (∀ k, k ∉ js → σ'[k]? = σ[k]?) → (∀ (i : Nat) (p : Addr) (d : D), σ'[i]? = some (some (V.ref p)) → ρ'[i]? = some (Sl.ow d) → σ[i]? = some (some (V.ref p)) ∧ ρ[i]? = some (Sl.ow d)) → Q σ' H) → g vs σ H Q
structure EI (X : Cx) (tg iter : Expr) (wi : TI) (dn : Da) : Prop where
  p : PI X tg iter wi
  s : SndI X.kx wi dn

def dNext : Ds := fun ρ s => some (.nx ρ, s)
def dSeq (a b : Ds) : Ds := fun ρ s => (a ρ s).bind fun p => match p.1 with
  | .nx ρ' => b ρ' p.2
  | o => some (o, p.2)
def dDrop (a : Dn) : Ds := fun ρ s => (a ρ s).map fun p => (.nx ρ, p.2)
def dRet (a : Dn) : Ds := fun ρ s => (a ρ s).map fun p => (.rt p.1 false, p.2)
def dRetN : Ds := fun ρ s => some (.rt .non false, s)
def dIfS (t : Dt) (a b : Ds) : Ds := fun ρ s => (t ρ s).bind fun p => if p.1 = true then a ρ p.2 else b ρ p.2
def dBrk : Ds := fun ρ s => some (.bk ρ, s)
def dCnt : Ds := fun ρ s => some (.ct ρ, s)
def dNever : Ds := fun _ _ => none
def dAsg (a : Dn) (g : Dg) : Ds := fun ρ s => (a ρ s).bind fun p => (g p.1 ρ).map fun ρ' => (.nx ρ', p.2)
def gdName (i : Nat) : Dg := fun d ρ => some (ρ.set i (.im d))
def gdNil : List D → List Sl → Option (List Sl) := fun ds ρ => match ds with
  | [] => some ρ
  | _ => none
def gdCons (g : Dg) (r : List D → List Sl → Option (List Sl)) : List D → List Sl → Option (List Sl) := fun ds ρ => match ds with
  | d :: ds => (g d ρ).bind (r ds)
  | [] => none
def gdTup (n : Nat) (r : List D → List Sl → Option (List Sl)) : Dg := fun d ρ => d.asT.bind fun ds => if ds.length = n then r ds ρ else none
/-- a loop over data -/
def dLoop (g : Dg) (b : Ds) : List D → Ds
  | [] => fun ρ s => some (.nx ρ, s)
  | x :: xs => fun ρ s => (g x ρ).bind fun ρ1 => (b ρ1 s).bind fun p => match p.1 with
    | .nx ρ2 => dLoop g b xs ρ2 p.2
    | .ct ρ2 => dLoop g b xs ρ2 p.2
    | .bk ρ2 => some (.nx ρ2, p.2)
    | .rt d o => some (.rt d o, p.2)
def dFor (it : Da) (g : Dg) (b : Ds) : Ds := fun ρ s => (it ρ s).bind fun p => dLoop g b p.1 ρ p.2

section
variable {K : Kx} {te : TE} {da : Dn} {tt : TT} {bt : Dt} {t u : TS} {a b : Ds} {g : TG} {dg : Dg} {js : List Nat}
theorem ss_next : SndS K tNext dNext := fun c I0 H0 I H σ ρ s o s' e h D q => by
  cases h
  exact q σ I H e
theorem ss_never : SndS K tNever dNever := fun c I0 H0 I H σ ρ s o s' e h D q => by cases h
theorem ss_seq (h1 : SndS K t a) (h2 : SndS K u b) : SndS K (tSeq t u) (dSeq a b) := fun c I0 H0 I H σ ρ s o s' e h D q => by
  obtain ⟨⟨x, s1⟩, ha, h⟩ := bind_some_of h
  refine h1 _ _ _ _ _ _ _ _ _ _ e ha _ ?_
  cases x with
  | nx ρ' => exact fun σ' I' H' e' => h2 _ _ _ _ _ _ _ _ _ _ e' h D q
  | rt d k => cases h; cases k <;> exact q
  | bk ρ' => cases h; exact q
  | ct ρ' => cases h; exact q
theorem ss_drop (h1 : SndE K te da) : SndS K (tDrop te) (dDrop da) := fun c I0 H0 I H σ ρ s o s' e h D q => by
  obtain ⟨⟨x, s1⟩, ha, h⟩ := map_some_of h
  cases h
  exact h1 _ _ _ _ _ _ _ _ e.env ha _ fun v I1 H1 g1 w1 r1 => q σ I1 H1 (e.grow g1 w1)
theorem ss_ret (h1 : SndE K te da) : SndS K (tRet te) (dRet da) := fun c I0 H0 I H σ ρ s o s' e h D q => by
  obtain ⟨⟨x, s1⟩, ha, h⟩ := map_some_of h
  cases h
  exact h1 _ _ _ _ _ _ _ _ e.env ha _ fun v I1 H1 g1 w1 r1 => q v I1 H1 (e.grow g1 w1).gr w1 r1
theorem ss_retN : SndS K tRetN dRetN := fun c I0 H0 I H σ ρ s o s' e h D q => by
  cases h
  exact q .non I H e.gr e.env.w .non
theorem ss_if (ht : SndT K tt bt) (h1 : SndS K t a) (h2 : SndS K u b) : SndS K (tIfS tt t u) (dIfS bt a b) := fun c I0 H0 I H σ ρ s o s' e h D q => by
  obtain ⟨⟨x, s1⟩, ha, h⟩ := bind_some_of h
  refine ht _ _ _ _ _ _ _ _ e.env ha _ fun I1 H1 g1 w1 => ?_
  cases x with
  | true => exact h1 _ _ _ _ _ _ _ _ _ _ (e.grow g1 w1) h D q
  | false => exact h2 _ _ _ _ _ _ _ _ _ _ (e.grow g1 w1) h D q
theorem ss_brk : SndS K tBreak dBrk := fun c I0 H0 I H σ ρ s o s' e h D q => by
  cases h
  exact q σ I H e
theorem ss_cnt : SndS K tCont dCnt := fun c I0 H0 I H σ ρ s o s' e h D q => by
  cases h
  exact q σ I H e
theorem ss_asg (h1 : SndE K te da) (hg : SndG K g dg js) : SndS K (tAsg te g) (dAsg da dg) := fun c I0 H0 I H σ ρ s o s' e h D q => by
  obtain ⟨⟨x, s1⟩, ha, h⟩ := bind_some_of h
  obtain ⟨ρ', hb, h⟩ := map_some_of h
  cases h
  refine h1 _ _ _ _ _ _ _ _ e.env ha _ fun v I1 H1 g1 w1 r1 => ?_
  have e1 := e.grow g1 w1
  exact hg _ _ _ _ _ _ _ _ _ e1.env r1 hb _ fun σ' e2 _ _ u => q σ' I1 H1 ⟨e2, e1.s0, e1.kp, e1.nw, fun i p d x y => by
    obtain ⟨x', y'⟩ := u i p d x y
    exact e1.fr i p d x' y', e1.nc⟩
theorem sg_name (i : Nat) : SndG K (gName i) (gdName i) [i] := fun c I H v d σ ρ s ρ' e r h Q q => by
  cases h
  refine q _ (e.setI r i) (by simp) (fun k hk => ?_) fun j p d' h1 h2 => ?_
  · rw [List.getElem?_set_ne (fun z => hk (by simp [z]))]
  · by_cases z : i = j
    · subst z
      rw [List.getElem?_set] at h2
      simp only [if_true] at h2
      split at h2
      · cases h2
      · cases h2
    · rw [List.getElem?_set_ne z] at h1 h2
      exact ⟨h1, h2⟩
theorem sg_tup {n : Nat} {gs : TGs} {dgs : List D → List Sl → Option (List Sl)}
    (hs : ∀ c I H vs ds σ ρ s ρ', Ec K c I H σ ρ s → RepL K c I vs ds → dgs ds ρ = some ρ' →
    ∀ Q : L2.St → Hp → Prop, (∀ σ', Ec K c I H σ' ρ' s → σ'.length = σ.length → (∀ k, k ∉ js → σ'[k]? = σ[k]?) → (∀ (i : Nat) (p : Addr) (d : D), σ'[i]? = some (some (V.ref p)) → ρ'[i]? = some (Sl.ow d) → σ[i]? = some (some (V.ref p)) ∧ ρ[i]? = some (Sl.ow d)) → Q σ' H) → gs vs σ H Q) :
    SndG K (gTup K n gs) (gdTup n dgs) js := fun c I H v d σ ρ s ρ' e r h Q q => by
  obtain ⟨ds, h1, h⟩ := bind_some_of h
  split at h
  · rename_i hl
    obtain ⟨a, xs, rfl, hx, hr⟩ := r.asT h1
    exact ⟨a, xs, rfl, e.sub.sqT hx, by rw [hr.length]; exact hl, hs _ _ _ _ _ _ _ _ _ e hr h Q q⟩
  · cases h
end

section
variable {X : Cx} {e e1 e2 : Expr} {te : TE} {da : Dn} {g : TG} {dg : Dg} {js : List Nat} {pos : Pos}
theorem eg_name {i : Nat} {x : Str} (hN : X.N.Nodup) (hi : X.N[i]? = some x) (hx : Loc X.env.scope x) (hf : X.fn x = true ∨ X.env.scope.names.lookup x = some .local := by first | exact .inl rfl | exact .inr rfl | assumption) : EG X (.Name x pos) (gName i) (gdName i) [i] :=
  ⟨pg_name hN hi hx hf, sg_name i⟩
theorem egs_nil : EGs X [] gNil gdNil [] := ⟨pgs_nil, fun c I H vs ds σ ρ s ρ' e r h Q q => by
  cases r with
  | nil =>
    cases h
    exact ⟨rfl, q σ e rfl (fun _ _ => rfl) fun _ _ _ a b => ⟨a, b⟩⟩
  | cons _ _ => cases h⟩
theorem egs_cons {es : List Expr} {gs : TGs} {dgs : List D → List Sl → Option (List Sl)} {ks : List Nat} (h1 : EG X e g dg js) (h2 : EGs X es gs dgs ks)
    (hs : (assignEach (e :: es) X.env).map (fun z => z.2) = assign e X.env :: (assignEach es X.env).map (fun z => z.2) := by rfl) : EGs X (e :: es) (gCons g gs) (gdCons dg dgs) (js ++ ks) :=
  ⟨pgs_cons h1.p h2.p hs, fun c I H vs ds σ ρ s ρ' e r h Q q => by
    cases r with
    | nil => cases h
    | @cons v d vs ds rv rr =>
      obtain ⟨ρ1, ha, h⟩ := bind_some_of h
      refine ⟨v, vs, rfl, h1.s _ _ _ _ _ _ _ _ _ e rv ha _ fun σ1 e1 l1 k1 u1 => ?_⟩
      refine h2.s _ _ _ _ _ _ _ _ _ e1 rr h _ fun σ2 e2 l2 k2 u2 => ?_
      refine q σ2 e2 (l2.trans l1) (fun k hk => ?_) fun i p d a b => ?_
      · rw [List.mem_append, not_or] at hk
        rw [k2 k hk.2, k1 k hk.1]
      · obtain ⟨a, b⟩ := u2 i p d a b
        exact u1 i p d a b⟩
theorem eg_tup {es : List Expr} {k : Nat} {gs : TGs} {n : Nat} {dgs : List D → List Sl → Option (List Sl)} (hc : X.calm = true) (h : EGs X es gs dgs js) (hn : (assignEach es X.env).length = n := by rfl)
    (hst : (assignEach es X.env).findIdx? (fun z => z.1) = none := by rfl) : EG X (.Tuple es k pos) (gTup X.kx n gs) (gdTup n dgs) js :=
  ⟨pg_tup hc h.p hn hst, sg_tup h.s⟩
end

/-! loops -/
section
variable {K : Kx} {wi : TI} {di : Da} {t : TS} {b : Ds} {g : TG} {dg : Dg} {js : List Nat}
theorem ss_for (hi : SndI K wi di) (hg : SndG K g dg js) (hb : SndS K t b) : SndS K (tFor wi g t) (dFor di dg b) := fun c I0 H0 I H σ ρ s o s' e h D q => by
  obtain ⟨⟨xs, s1⟩, ha, h⟩ := bind_some_of h
  refine hi _ _ _ _ _ _ _ _ e.env ha _ fun J I1 H1 g1 w1 yl => ?_
  refine ⟨fun i m σ' H' => m = xs.length - i ∧ i ≤ xs.length ∧ ∃ I' ρ' s2, EnvS K c I0 H0 I' H' σ' ρ' s2 ∧ Sb I1 I' ∧ dLoop dg b (xs.drop i) ρ' s2 = some (o, s'),
    ⟨xs.length, by simp, Nat.zero_le _, I1, ρ, s1, e.grow g1 w1, .refl _, by simpa using h⟩, ?_⟩
  rintro i m σ' H' ⟨rfl, hle, I', ρ', s2, e', sb, hl⟩
  obtain ⟨y1, y2⟩ := yl I' H' sb e'.env.sub
  by_cases hlt : i < xs.length
  · obtain ⟨go, yld⟩ := y1 i xs[i] (List.getElem?_eq_getElem hlt)
    rw [List.drop_eq_getElem_cons hlt] at hl
    obtain ⟨ρ1, hx, hl⟩ := bind_some_of hl
    obtain ⟨⟨r, s3⟩, hbd, hl⟩ := bind_some_of hl
    refine .inr ⟨go, fun σ2 H2 => ∃ I2 ρ2 s4, EnvS K c I0 H0 I2 H2 σ2 ρ2 s4 ∧ Sb I1 I2 ∧ dLoop dg b (xs.drop (i + 1)) ρ2 s4 = some (o, s'), fun σ2 H2 ⟨I2, ρ2, s4, z1, z2, z3⟩ => ⟨xs.length - (i + 1), by omega, rfl, hlt, I2, ρ2, s4, z1, z2, z3⟩, fun x H3 hy => ?_⟩
    obtain ⟨I3, g3, r3⟩ := yld x H3 hy
    have w3 := e'.env.w.gr g3
    have e3 := e'.grow g3.up w3
    refine hg _ _ _ _ _ _ _ _ _ e3.env r3 hx _ fun σ4 e4 _ _ u4 => ?_
    have e5 : EnvS K c I0 H0 I3 H3 σ4 ρ1 s2 := ⟨e4, e3.s0, e3.kp, e3.nw, fun j p d a b => by
      obtain ⟨a, b⟩ := u4 j p d a b
      exact e3.fr j p d a b, e3.nc⟩
    have e1 := e.grow g1 w1
    refine hb _ _ _ _ _ _ _ _ _ _ (e5.reb e1.s0 (sb.trans g3.s1)) hbd _ ?_
    cases r with
    | nx ρ2 => exact fun σ6 I6 H6 e6 => ⟨I6, ρ2, s3, e6.back e1.s0 e1.nw, e6.s0, hl⟩
    | ct ρ2 => exact fun σ6 I6 H6 e6 => ⟨I6, ρ2, s3, e6.back e1.s0 e1.nw, e6.s0, hl⟩
    | bk ρ2 => cases hl; exact fun σ6 I6 H6 e6 => q σ6 I6 H6 (e6.back e1.s0 e1.nw)
    | rt d k =>
      cases hl
      cases k with
      | false => exact fun v I6 H6 g6 w6 r6 => q v I6 H6 (g6.back e1.s0 e1.nw) w6 r6
      | true => exact fun v I6 H6 g6 w6 r6 => q v I6 H6 (g6.back e1.s0 e1.nw) w6 r6
  · have ei : i = xs.length := by omega
    subst ei
    rw [List.drop_length] at hl
    cases hl
    exact .inl ⟨y2, q _ _ _ e'⟩
end
end Dl
end
section
set_option Elab.async false
set_option linter.all false
set_option maxRecDepth 100000
set_option maxHeartbeats 4000000
namespace Dl
open PySem PySem.Spec PyProof.Rows L2 StX

/-! data compared: as the library does -/
mutual
def D.conv : D → Option PyData
  | .non => some .none
  | .bl b => some (.bool b)
  | .int i => some (.int i)
  | .str x => some (.str x)
  | .tup xs => (convL xs).map .tuple
  | .ktp xs => (convL xs).map .tuple
  | .lst xs => (convL xs).map .list
  | .dS _ => none
  | .dT _ => none
  | .sl _ => none
  | .rw => none
  | .fn _ => none
  | .tb => none
  | .clo _ _ => none
  | .exi _ _ _ => none
  | .dsk _ _ _ _ => none
termination_by structural d => d
def convL : List D → Option (List PyData)
  | [] => some []
  | x :: xs => x.conv.bind fun y => (convL xs).map fun ys => y :: ys
termination_by structural d => d
end
section
variable {K : Kx} {c : Option Addr} {I H : Hp}
mutual
theorem Rep.dp (s : Sub I H) : ∀ {v : V} {d : D} {p : PyData}, Rep K c I v d → d.conv = some p → Dp K H v p
  | _, _, _, .non, e => by cases e; exact .non
  | _, _, _, .bl b, e => by cases e; exact .bl b
  | _, _, _, .int b, e => by cases e; exact .int b
  | _, _, _, .str b, e => by cases e; exact .str b
  | _, _, _, .tup h _ r, e => by
    obtain ⟨x, h1, rfl⟩ := map_some_of e
    exact .tup (.inl (s.rdT (.inr ⟨_, h⟩))) (RepL.dp s r h1)
  | _, _, _, .ktp h r, e => by
    obtain ⟨x, h1, rfl⟩ := map_some_of e
    exact .tup (s.sqT h) (RepL.dp s r h1)
  | _, _, _, .lst h r, e => by
    obtain ⟨x, h1, rfl⟩ := map_some_of e
    exact .lst (.of (s.lst h)) (RepL.dp s r h1)
  | _, _, _, .dS _ _, e => by cases e
  | _, _, _, .dT _ _, e => by cases e
  | _, _, _, .sl _, e => by cases e
  | _, _, _, .rw _, e => by cases e
  | _, _, _, .fn _, e => by cases e
  | _, _, _, .tb _ _, e => by cases e
  | _, _, _, .clo _ _ _ _, e => by cases e
  | _, _, _, .exi _ _, e => by cases e
  | _, _, _, .dsk _ _ _ _, e => by cases e
theorem RepL.dp (s : Sub I H) : ∀ {v : List V} {d : List D} {p : List PyData}, RepL K c I v d → convL d = some p → DpAll K H v p
  | _, _, _, .nil, e => by cases e; exact .nil
  | _, _, _, .cons a r, e => by
    obtain ⟨y, h1, e⟩ := bind_some_of e
    obtain ⟨ys, h2, rfl⟩ := map_some_of e
    exact .cons (Rep.dp s a h1) (RepL.dp s r h2)
end
end
def eqB (d e : D) : Option Bool := d.conv.bind fun x => e.conv.bind fun y => if (SeqAt.shaped x && SeqAt.shaped y) = true then some (PyData.eqv x y) else none
def eqD (d e : D) : Option D := (eqB d e).map .bl
def neD (d e : D) : Option D := (eqB d e).map fun b => .bl (!b)
def inB (d e : D) : Option Bool := d.conv.bind fun x => e.its.bind fun es => (convL es).bind fun ys => if (SeqAt.shaped x && SeqAt.shaped (.list ys) && SeqAt.shaped (.tuple ys)) = true then some (ys.any fun z => PyData.eqv z x) else none
def inD (d e : D) : Option D := (inB d e).map .bl
def ninD (d e : D) : Option D := (inB d e).map fun b => .bl (!b)
theorem s2_eq {K : Kx} : Snd2 K (rEqD K) eqD := fun c I H x y d e z s rx ry h Q q => by
  obtain ⟨b, h0, rfl⟩ := map_some_of h
  obtain ⟨p1, h1, h⟩ := bind_some_of h0
  obtain ⟨p2, h2, h⟩ := bind_some_of h
  split at h
  · rename_i hs
    cases h
    rw [Bool.and_eq_true] at hs
    exact ⟨p1, p2, rx.dp s h1, ry.dp s h2, hs.1, hs.2, q.val s (.bl _)⟩
  · cases h
theorem s2_ne {K : Kx} : Snd2 K (rNeD K) neD := fun c I H x y d e z s rx ry h Q q => by
  obtain ⟨b, h0, rfl⟩ := map_some_of h
  obtain ⟨p1, h1, h⟩ := bind_some_of h0
  obtain ⟨p2, h2, h⟩ := bind_some_of h
  split at h
  · rename_i hs
    cases h
    rw [Bool.and_eq_true] at hs
    exact ⟨p1, p2, rx.dp s h1, ry.dp s h2, hs.1, hs.2, q.val s (.bl _)⟩
  · cases h
/-- in, not in: a list or a tuple of data -/
def rInA (K : Kx) (neg : Bool) : R2 := fun x y H Q => ∃ d ds, Dp K H x d ∧ (Dp K H y (.list ds) ∨ Dp K H y (.tuple ds)) ∧ SeqAt.shaped d = true ∧ SeqAt.shaped (.list ds) = true ∧ SeqAt.shaped (.tuple ds) = true ∧
  Q (.bl (if neg = true then !ds.any fun z => PyData.eqv z d else ds.any fun z => PyData.eqv z d)) H
section
variable {X : Cx}
theorem tup_room {A : Around} {d : PyData} {ds : List PyData} (h : SeqAt.shaped d = true) (hu : A.units + 65 < cLine) : A.units + 1 + min (PyData.depthAll ds) d.depth < cLine := by
  have h1 := SeqAt.depth_of_shaped h
  have h2 : min (PyData.depthAll ds) d.depth ≤ d.depth := Nat.min_le_right _ _
  omega
theorem op_inA (hu : X.A.units + 65 < cLine) : OpR X (compareOp .In) (rInA X.kx false) := by
  intro pins s σ H x y v u Q I rx ry h
  obtain ⟨d, ds, hd, he, sd, sl, st, q⟩ := h
  obtain ⟨as, r1⟩ := Dp.reads I d x v hd rx
  rcases he with he | he
  · obtain ⟨bs, r2⟩ := Dp.reads I (.list ds) y u he ry
    exact SeqAt.in_list_reads r2 r1 (SeqAt.canLay_of_shaped sl) (SeqAt.canLay_of_shaped sd) (tup_room sd hu) ⟨.bl _, H, I, rfl, q⟩
  · obtain ⟨bs, r2⟩ := Dp.reads I (.tuple ds) y u he ry
    exact SeqAt.in_tuple_reads r2 r1 (SeqAt.canLay_of_shaped st) (SeqAt.canLay_of_shaped sd) (tup_room sd hu) ⟨.bl _, H, I, rfl, q⟩
theorem op_ninA (hu : X.A.units + 65 < cLine) : OpR X (compareOp .NotIn) (rInA X.kx true) := by
  intro pins s σ H x y v u Q I rx ry h
  obtain ⟨d, ds, hd, he, sd, sl, st, q⟩ := h
  obtain ⟨as, r1⟩ := Dp.reads I d x v hd rx
  rcases he with he | he
  · obtain ⟨bs, r2⟩ := Dp.reads I (.list ds) y u he ry
    exact SeqAt.notIn_list_reads r2 r1 (SeqAt.canLay_of_shaped sl) (SeqAt.canLay_of_shaped sd) (tup_room sd hu) ⟨.bl _, H, I, rfl, q⟩
  · obtain ⟨bs, r2⟩ := Dp.reads I (.tuple ds) y u he ry
    exact SeqAt.notIn_tuple_reads r2 r1 (SeqAt.canLay_of_shaped st) (SeqAt.canLay_of_shaped sd) (tup_room sd hu) ⟨.bl _, H, I, rfl, q⟩
end
theorem Rep.its_dp {K : Kx} {c : Option Addr} {I H : Hp} {v : V} {d : D} {ds : List D} {ps : List PyData} (s : Sub I H) (h : Rep K c I v d) (e : d.its = some ds) (e2 : convL ds = some ps) : Dp K H v (.list ps) ∨ Dp K H v (.tuple ps) := by
  cases h with
  | tup h z r => cases e; exact .inr (.tup (.inl (s.rdT (.inr ⟨_, h⟩))) (RepL.dp s r e2))
  | ktp h r => cases e; exact .inr (.tup (s.sqT h) (RepL.dp s r e2))
  | lst h r => cases e; exact .inl (.lst (.of (s.lst h)) (RepL.dp s r e2))
  | _ => cases e
theorem s2_in {K : Kx} : Snd2 K (rInA K false) inD := fun c I H x y d e z s rx ry h Q q => by
  obtain ⟨b, h0, rfl⟩ := map_some_of h
  obtain ⟨p1, h1, h⟩ := bind_some_of h0
  obtain ⟨es, h2, h⟩ := bind_some_of h
  obtain ⟨ps, h3, h⟩ := bind_some_of h
  split at h
  · rename_i hs
    cases h
    rw [Bool.and_eq_true, Bool.and_eq_true] at hs
    exact ⟨p1, ps, rx.dp s h1, ry.its_dp s h2 h3, hs.1.1, hs.1.2, hs.2, q.val s (.bl _)⟩
  · cases h
theorem s2_nin {K : Kx} : Snd2 K (rInA K true) ninD := fun c I H x y d e z s rx ry h Q q => by
  obtain ⟨b, h0, rfl⟩ := map_some_of h
  obtain ⟨p1, h1, h⟩ := bind_some_of h0
  obtain ⟨es, h2, h⟩ := bind_some_of h
  obtain ⟨ps, h3, h⟩ := bind_some_of h
  split at h
  · rename_i hs
    cases h
    rw [Bool.and_eq_true, Bool.and_eq_true] at hs
    exact ⟨p1, ps, rx.dp s h1, ry.its_dp s h2 h3, hs.1.1, hs.1.2, hs.2, q.val s (.bl _)⟩
  · cases h

/-! + - * // % << -/
def addD : D → D → Option D
  | .int i, .int j => some (.int (i + j))
  | .str x, .str y => if x.length + y.length ≤ 1000000 then some (.str (x ++ y)) else none
  | .lst xs, .lst ys => if xs.length + ys.length ≤ 1000000 then some (.lst (xs ++ ys)) else none
  | d, e => d.asT.bind fun xs => e.asT.bind fun ys => if xs.length + ys.length ≤ 1000000 then some (.ktp (xs ++ ys)) else none
def rAddI : R2 := rI0 fun i j => .int (i + j)
def rAddS : R2 := fun x y H Q => ∃ i j, x = .str i ∧ y = .str j ∧ i.length + j.length ≤ sizeLine ∧ Q (.str (i ++ j)) H
def rAddA (K : Kx) : R2 := fun x y H Q => rAddI x y H Q ∨ (rAddS x y H Q ∨ (rCat x y H Q ∨ rCatA K x y H Q))
theorem op_addA {X : Cx} : OpR X (binaryOp .Add) (rAddA X.kx) := OpR.or (r := rAddI) op_add (OpR.or (r := rAddS) op_add_str (OpR.or op_cat op_catA))
theorem addD_asT {d e z : D} (h : addD d e = some z) : (∃ i j, d = .int i ∧ e = .int j ∧ z = .int (i + j)) ∨ (∃ x y, d = .str x ∧ e = .str y ∧ x.length + y.length ≤ 1000000 ∧ z = .str (x ++ y)) ∨
    (∃ xs ys, d = .lst xs ∧ e = .lst ys ∧ xs.length + ys.length ≤ 1000000 ∧ z = .lst (xs ++ ys)) ∨ ∃ xs ys, d.asT = some xs ∧ e.asT = some ys ∧ xs.length + ys.length ≤ 1000000 ∧ z = .ktp (xs ++ ys) := by
  unfold addD at h
  split at h
  · cases h; exact .inl ⟨_, _, rfl, rfl, rfl⟩
  · split at h
    · cases h; exact .inr (.inl ⟨_, _, rfl, rfl, by assumption, rfl⟩)
    · cases h
  · split at h
    · cases h; exact .inr (.inr (.inl ⟨_, _, rfl, rfl, by assumption, rfl⟩))
    · cases h
  · obtain ⟨xs, h1, h⟩ := bind_some_of h
    obtain ⟨ys, h2, h⟩ := bind_some_of h
    split at h
    · cases h; exact .inr (.inr (.inr ⟨xs, ys, h1, h2, by assumption, rfl⟩))
    · cases h
theorem s2_add {K : Kx} : Snd2 K (rAddA K) addD := fun c I H x y d e z s rx ry h Q q => by
  rcases addD_asT h with ⟨i, j, rfl, rfl, rfl⟩ | ⟨a, b, rfl, rfl, hl, rfl⟩ | ⟨xs, ys, rfl, rfl, hl, rfl⟩ | ⟨xs, ys, h1, h2, hl, rfl⟩
  · cases rx; cases ry
    exact .inl ⟨i, j, rfl, rfl, q.val s (.int _)⟩
  · cases rx; cases ry
    exact .inr (.inl ⟨a, b, rfl, rfl, mil hl, q.val s (.str _)⟩)
  · cases rx with
    | lst h1 r1 => cases ry with
      | lst h2 r2 => exact .inr (.inr (.inl ⟨_, _, _, _, rfl, rfl, s.lst h1, s.lst h2, mil (by rw [r1.length, r2.length]; exact hl), fun p hp => q.lst s hp (r1.app r2)⟩))
  · obtain ⟨a, us, rfl, ha, ra⟩ := rx.asT h1
    obtain ⟨b, ws, rfl, hb, rb⟩ := ry.asT h2
    refine .inr (.inr (.inr ⟨a, b, us, ws, rfl, rfl, s.sqT ha, s.sqT hb, mil (by rw [ra.length, rb.length]; exact hl), fun e => ?_, fun _ e => ?_, fun _ _ p hp => q.ktp s hp (ra.app rb)⟩))
    · subst e
      have r := ra.app rb
      exact q.val s (.ktp hb r)
    · subst e
      have r := ra.app rb
      rw [List.append_nil] at r
      exact q.val s (.ktp ha r)
def i2 (C : Int → Int → Bool) (g : Int → Int → D) : D → D → Option D
  | .int i, .int j => if C i j = true then some (g i j) else none
  | _, _ => none
theorem s2_I {K : Kx} {C : Int → Int → Prop} {C' : Int → Int → Bool} {g : Int → Int → V} {g' : Int → Int → D} (hc : ∀ i j, C' i j = true → C i j) (hg : ∀ c I i j, Rep K c I (g i j) (g' i j)) : Snd2 K (rI C g) (i2 C' g') := fun c I H x y d e z s rx ry h Q q => by
  unfold i2 at h
  split at h
  · split at h
    · cases h; cases rx; cases ry
      exact ⟨_, _, rfl, rfl, hc _ _ (by assumption), q.val s (hg _ _ _ _)⟩
    · cases h
  · cases h
theorem s2_I0 {K : Kx} {g : Int → Int → V} {g' : Int → Int → D} (hg : ∀ c I i j, Rep K c I (g i j) (g' i j)) : Snd2 K (rI0 g) (i2 (fun _ _ => true) g') := fun c I H x y d e z s rx ry h Q q => by
  unfold i2 at h
  split at h
  · rw [if_pos rfl] at h
    cases h; cases rx; cases ry
    exact ⟨_, _, rfl, rfl, q.val s (hg _ _ _ _)⟩
  · cases h
def subD : D → D → Option D := i2 (fun _ _ => true) fun i j => .int (i - j)
def fdivD : D → D → Option D := i2 (fun _ j => decide (0 < j ∧ j < 1073741824)) fun i j => .int (i / j)
def modD : D → D → Option D := i2 (fun _ j => decide (0 < j)) fun i j => .int (i % j)
def powD : D → D → Option D := i2 (fun i j => decide (0 ≤ j ∧ j ≤ 1000000 ∧ i.natAbs < 2 ^ 64)) fun i j => .int (i ^ j.toNat)
def shlD : D → D → Option D := i2 (fun i j => decide (0 ≤ j ∧ j ≤ 1000000 ∧ i.natAbs < 2 ^ 64)) fun i j => .int (i * 2 ^ j.toNat)
def ltD : D → D → Option D := i2 (fun _ _ => true) fun i j => .bl (decide (i < j))
def leD : D → D → Option D := i2 (fun _ _ => true) fun i j => .bl (decide (i ≤ j))
def gtD : D → D → Option D := i2 (fun _ _ => true) fun i j => .bl (decide (j < i))
def geD : D → D → Option D := i2 (fun _ _ => true) fun i j => .bl (decide (j ≤ i))
def mulI : D → D → Option D := i2 (fun i j => decide ((-(2 ^ 64) < i ∧ i < 2 ^ 64) ∨ (-(2 ^ 64) < j ∧ j < 2 ^ 64))) fun i j => .int (i * j)
/-- xs * k -/
def repL : D → D → Option D
  | .lst xs, .int k => if decide (0 ≤ k ∧ k ≤ 1000 ∧ xs.length ≤ 1000) = true then some (.lst (List.replicate k.toNat xs).flatten) else none
  | _, _ => none
def mulD : D → D → Option D := fun d e => (mulI d e).orElse fun _ => repL d e
def rMulI : R2 := rI CMul fun i j => .int (i * j)
def rMulA : R2 := fun x y H Q => rMulI x y H Q ∨ rRep x y H Q
theorem op_mulA {X : Cx} : OpR X (binaryOp .Mult) rMulA := OpR.or (r := rMulI) op_mul op_rep
theorem s2_mul {K : Kx} : Snd2 K rMulA mulD := fun c I H x y d e z s rx ry h Q q => by
  unfold mulD at h
  cases hm : mulI d e with
  | some w =>
    rw [hm] at h
    cases h
    exact .inl (s2_I (K := K) (C := CMul) (g := fun i j => .int (i * j)) (C' := fun i j => decide ((-(2 ^ 64) < i ∧ i < 2 ^ 64) ∨ (-(2 ^ 64) < j ∧ j < 2 ^ 64))) (g' := fun i j => .int (i * j)) (fun i j h => (by have h2 := of_decide_eq_true h; exact h2)) (fun _ _ i j => .int _) _ _ _ _ _ _ _ _ s rx ry hm Q q)
  | none =>
    rw [hm] at h
    have h : repL d e = some z := h
    unfold repL at h
    split at h
    · split at h
      · rename_i ds k _ hc0
        have hc := of_decide_eq_true hc0
        cases h
        cases ry
        cases rx with
        | lst h1 r1 =>
          have hl := r1.length
          refine .inr ⟨_, _, _, rfl, rfl, s.lst h1, by omega, by omega, ?_, fun p hp => q.lst s hp (r1.rep _)⟩
          have h2 : ds.length * k.toNat ≤ 1000 * 1000 := Nat.mul_le_mul hc.2.2 (by omega)
          rw [hl]
          exact mil h2
      · cases h
    · cases h
/-! the order of texts, too -/
def ltA : D → D → Option D
  | .str x, .str y => some (.bl (decide (x.cps.toList < y.cps.toList)))
  | d, e => ltD d e
def rLtS : R2 := fun x y H Q => ∃ i j, x = .str i ∧ y = .str j ∧ Q (.bl (decide (i.cps.toList < j.cps.toList))) H
def rLtI : R2 := rI0 fun i j => .bl (decide (i < j))
def rLtA : R2 := fun x y H Q => rLtI x y H Q ∨ rLtS x y H Q
theorem op_ltA {X : Cx} : OpR X (compareOp .Lt) rLtA := OpR.or (r := rLtI) (r' := rLtS) op_lt op_lt_str
theorem s2_lt {K : Kx} : Snd2 K rLtA ltA := fun c I H x y d e z s rx ry h Q q => by
  unfold ltA at h
  split at h
  · cases h; cases rx; cases ry
    exact .inr ⟨_, _, rfl, rfl, q.val s (.bl _)⟩
  · exact .inl (s2_I0 (K := K) (fun _ _ i j => .bl _) _ _ _ _ _ _ _ _ s rx ry h Q q)
def negD : D → Option D
  | .int i => some (.int (-i))
  | _ => none
theorem s1_neg {K : Kx} : Snd1 K (rU fun i => .int (-i)) negD := fun c I H x d z s rx h Q q => by
  cases rx with
  | int i => cases h; exact ⟨_, rfl, q.val s (.int _)⟩
  | _ => cases h
/-! items, slices -/
def ixD : D → D → Option D
  | .sl ns, .int i => (atI ns i).map .int
  | .str z, .int i => if z.length ≤ 1000000 then (atI z.cps.toList i).map fun c => .str ⟨#[c]⟩ else none
  | d, .int i => d.its.bind fun xs => atI xs i
  | _, _ => none
theorem atI_map {α β : Type} (f : α → β) (xs : List α) (i : Int) : atI (xs.map f) i = (atI xs i).map f := by
  unfold atI
  rw [List.length_map]
  cases ixN xs.length i with
  | none => rfl
  | some j => exact List.getElem?_map
theorem RepL.atI {K : Kx} {c : Option Addr} {I : Hp} {vs : List V} {ds : List D} {i : Int} {d : D} (r : RepL K c I vs ds) (h : L2.atI ds i = some d) : ∃ v, L2.atI vs i = some v ∧ Rep K c I v d := by
  obtain ⟨j, h1, h2⟩ := bind_some_of h
  obtain ⟨v, h3, h4⟩ := r.get h2
  refine ⟨v, ?_, h4⟩
  unfold L2.atI
  rw [r.length, h1]
  exact h3
theorem s2_ix {K : Kx} : Snd2 K (rIx K) ixD := fun c I H x y d e z s rx ry h Q q => by
  unfold ixD at h
  split at h
  · obtain ⟨n, h1, rfl⟩ := map_some_of h
    cases ry
    cases rx with
    | sl hs => exact .inl ⟨_, _, _, _, rfl, rfl, s.sqL hs, by rw [atI_map, h1]; rfl, q.val s (.int _)⟩
  · split at h
    · rename_i hl
      obtain ⟨n, h1, rfl⟩ := map_some_of h
      cases ry
      cases rx
      exact .inr (.inr ⟨_, _, _, rfl, rfl, mil hl, h1, q.val s (.str _)⟩)
    · cases h
  · obtain ⟨xs, h1, h2⟩ := bind_some_of h
    cases ry
    obtain ⟨a, vs, rfl, ha, ra⟩ := rx.its h1
    obtain ⟨v, h3, h4⟩ := ra.atI h2
    rcases ha with ha | ha
    · exact .inr (.inl ⟨_, _, _, _, rfl, rfl, s.sqT ha, h3, q.val s h4⟩)
    · exact .inl ⟨_, _, _, _, rfl, rfl, s.sqL ha, h3, q.val s h4⟩
  · cases h
def cutL {α : Type} (xs : List α) (lo hi : Option Int) : List α := (xs.drop (HT.sIx xs.length 0 lo)).take (HT.sIx xs.length xs.length hi - HT.sIx xs.length 0 lo)
theorem RepL.cut {K : Kx} {c : Option Addr} {I : Hp} {vs : List V} {ds : List D} (r : RepL K c I vs ds) (lo hi : Option Int) : RepL K c I (cutV vs lo hi) (cutL ds lo hi) := by
  unfold cutV cutL
  rw [r.length]
  exact (r.drop _).take _
def slD : D → Option Int → Option Int → Option D
  | .str z, lo, hi => if z.length ≤ 1000000 then some (.str (cutS z lo hi)) else none
  | .lst xs, lo, hi => some (.lst (cutL xs lo hi))
  | d, lo, hi => d.asT.map fun xs => .ktp (cutL xs lo hi)
def rSlAny (K : Kx) : V → Option Int → Option Int → Hp → VK → Prop := fun x lo hi H Q => rSlS x lo hi H Q ∨ (rSlL K x lo hi H Q ∨ rSlA K x lo hi H Q)
theorem sl_any {X : Cx} : SlR X (rSlAny X.kx) := SlR.or sl_str (SlR.or sl_list sl_tupA)
theorem ss_sl {K : Kx} : SndSl K (rSlAny K) slD := fun c I H x d lo hi z s rx h Q q => by
  unfold slD at h
  split at h
  · split at h
    · rename_i hl
      cases h; cases rx
      exact .inl ⟨_, rfl, mil hl, q.val s (.str _)⟩
    · cases h
  · cases h
    cases rx with
    | lst h1 r => exact .inr (.inl ⟨_, _, rfl, .of (s.lst h1), fun p hp => q.lst s hp (r.cut lo hi)⟩)
  · obtain ⟨xs, h1, rfl⟩ := map_some_of h
    obtain ⟨a, vs, rfl, ha, ra⟩ := rx.asT h1
    refine .inr (.inr ⟨a, vs, rfl, s.sqT ha, fun hw => ?_, fun _ p hp => q.ktp s hp (ra.cut lo hi)⟩)
    have e : cutV vs lo hi = vs := by
      unfold cutV
      rw [hw.1, hw.2]
      simp
    have r := ra.cut lo hi
    rw [e] at r
    exact q.val s (.ktp ha r)
end Dl
end
section
set_option Elab.async false
set_option linter.all false
set_option maxRecDepth 100000
set_option maxHeartbeats 4000000
namespace Dl
open PySem PySem.Spec PyProof.Rows L2 StX

section
variable {X : Cx} {e a b d : Expr} {es : List Expr} {te ta tb tc : TE} {da db dc : Dn} {tA tB' : TT} {bA bB : Dt} {tx : TA} {ax : Da} {pos p : Pos}
theorem ee_var (i : Nat) {x : Str} (hN : X.N[i]? = some x := by rfl) (hv : Vis X.env.scope x := by first | exact Or.inl rfl | exact Or.inr (Or.inl rfl) | exact Or.inr (Or.inr rfl)) (hd : (x == ("__debug__" : Str)) = false := by decide)
    (hcd : (x == ("__classdict__" : Str)) = false := by decide) : EE X (.Name x pos) (tVar i) (dVar i) := ⟨pe_var hN hv hd hcd, sn_var i⟩
theorem ee_int {i : Int} {j : Nat} : EE X (.Constant (.int i) j pos) (tC (.int i)) (dC (.int i)) := ⟨pe_int, sn_c fun _ _ => .int i⟩
theorem ee_bl {i : Bool} {j : Nat} : EE X (.Constant (.bool i) j pos) (tC (.bl i)) (dC (.bl i)) := ⟨pe_bl, sn_c fun _ _ => .bl i⟩
theorem ee_non {j : Nat} : EE X (.Constant .none j pos) (tC .non) (dC .non) := ⟨pe_non, sn_c fun _ _ => .non⟩
theorem ee_str {i : Str} {j : Nat} : EE X (.Constant (.str i) j pos) (tC (.str i)) (dC (.str i)) := ⟨pe_str, sn_c fun _ _ => .str i⟩
theorem ee_glob {x : Str} {v : V} {u : Value} {d : D} (hg : Gl X x) (hm : X.mg x = some u) (r : RelV v u) (rp : ∀ c I, Rep X.kx c I v d) (hd : (x == ("__debug__" : Str)) = false := by decide) : EE X (.Name x pos) (tC v) (dC d) :=
  ⟨pe_glob hg hm r hd, sn_c rp⟩
theorem ee_op {op : Operator} {r : R2} {f : D → D → Option D} (ho : OpR X (binaryOp op) r) (hs : Snd2 X.kx r f) (ha : EE X a ta da) (hb : EE X b tb db) : EE X (.BinOp a op b pos) (tOp r ta tb) (dOp f da db) :=
  ⟨pe_op ho ha.p hb.p, sn_op ha.s hb.s hs⟩
theorem ee_add (ha : EE X a ta da) (hb : EE X b tb db) : EE X (.BinOp a .Add b pos) (tOp (rAddA X.kx) ta tb) (dOp addD da db) := ee_op op_addA s2_add ha hb
theorem ee_sub (ha : EE X a ta da) (hb : EE X b tb db) : EE X (.BinOp a .Sub b pos) (tOp (rI0 fun i j => .int (i - j)) ta tb) (dOp subD da db) := ee_op op_sub (s2_I0 fun _ _ _ _ => .int _) ha hb
theorem ee_mul (ha : EE X a ta da) (hb : EE X b tb db) : EE X (.BinOp a .Mult b pos) (tOp rMulA ta tb) (dOp mulD da db) := ee_op op_mulA s2_mul ha hb
theorem ee_fdiv (ha : EE X a ta da) (hb : EE X b tb db) : EE X (.BinOp a .FloorDiv b pos) (tOp (rI CDiv fun i j => .int (i / j)) ta tb) (dOp fdivD da db) := ee_op op_fdiv (s2_I (fun _ _ h => (by have h2 := of_decide_eq_true h; exact h2)) fun _ _ _ _ => .int _) ha hb
theorem ee_mod (ha : EE X a ta da) (hb : EE X b tb db) : EE X (.BinOp a .Mod b pos) (tOp (rI (fun _ j => 0 < j) fun i j => .int (i % j)) ta tb) (dOp modD da db) := ee_op op_mod (s2_I (fun _ _ h => of_decide_eq_true h) fun _ _ _ _ => .int _) ha hb
theorem ee_pow (ha : EE X a ta da) (hb : EE X b tb db) : EE X (.BinOp a .Pow b pos) (tOp (rI CPow fun i j => .int (i ^ j.toNat)) ta tb) (dOp powD da db) := ee_op op_pow (s2_I (fun _ _ h => (by have h2 := of_decide_eq_true h; exact h2)) fun _ _ _ _ => .int _) ha hb
theorem ee_shl (ha : EE X a ta da) (hb : EE X b tb db) : EE X (.BinOp a .LShift b pos) (tOp (rI CPow fun i j => .int (i * 2 ^ j.toNat)) ta tb) (dOp shlD da db) := ee_op op_shl (s2_I (fun _ _ h => (by have h2 := of_decide_eq_true h; exact h2)) fun _ _ _ _ => .int _) ha hb
theorem ee_neg (ha : EE X a ta da) : EE X (.UnaryOp .USub a pos) (tUn (rU fun i => .int (-i)) ta) (dUn negD da) := ⟨pe_un un_neg ha.p, (sn_un ha.s s1_neg : SndE X.kx (fun σ H Q => ta σ H fun x H1 => rU (fun i => .int (-i)) x H1 Q) _)⟩
/-- a comparison's rule and what it means -/
structure CM (X : Cx) (op : CmpOp) (r : R2) (f : D → D → Option D) : Prop where
  o : OpR X (compareOp op) r
  s : Snd2 X.kx r f
theorem cm_eq {k : Nat} (hr : Room k X.A) : CM X .Eq (rEqD X.kx) eqD := ⟨op_eqD hr.units, s2_eq⟩
theorem cm_ne {k : Nat} (hr : Room k X.A) : CM X .NotEq (rNeD X.kx) neD := ⟨op_neD hr.units, s2_ne⟩
theorem un65 {A : Around} {k : Nat} (hr : Room (k + 1) A) : A.units + 65 < cLine := by have := hr.un; omega
theorem cm_in {k : Nat} (hr : Room (k + 1) X.A) : CM X .In (rInA X.kx false) inD := ⟨op_inA (un65 hr), s2_in⟩
theorem cm_nin {k : Nat} (hr : Room (k + 1) X.A) : CM X .NotIn (rInA X.kx true) ninD := ⟨op_ninA (un65 hr), s2_nin⟩
theorem cm_lt : CM X .Lt rLtA ltA := ⟨op_ltA, s2_lt⟩
theorem cm_le : CM X .LtE (rI0 fun i j => .bl (decide (i ≤ j))) leD := ⟨op_le, s2_I0 fun _ _ _ _ => .bl _⟩
theorem cm_gt : CM X .Gt (rI0 fun i j => .bl (decide (j < i))) gtD := ⟨op_gt, s2_I0 fun _ _ _ _ => .bl _⟩
theorem cm_ge : CM X .GtE (rI0 fun i j => .bl (decide (j ≤ i))) geD := ⟨op_ge, s2_I0 fun _ _ _ _ => .bl _⟩
theorem ee_cmp {op : CmpOp} {r : R2} {f : D → D → Option D} (h : CM X op r f) (ha : EE X a ta da) (hb : EE X b tb db) (hm : behindInMarks op b = false := by first | exact nomark _ | rfl) : EE X (.Compare a [op] [b] pos) (tOp r ta tb) (dOp f da db) :=
  ⟨pe_cmpR h.o ha.p hb.p hm, sn_op ha.s hb.s h.s⟩
theorem et_cmp {op : CmpOp} {r : R2} {f : D → D → Option D} (h : CM X op r f) (ha : EE X a ta da) (hb : EE X b tb db) (hm : behindInMarks op b = false := by first | exact nomark _ | rfl) : ET X (.Compare a [op] [b] pos) (tTest (tOp r ta tb)) (dB (dOp f da db)) :=
  ⟨pt_cmpR h.o ha.p hb.p hm, sn_test (sn_op ha.s hb.s h.s)⟩
def isNB : D → Option Bool
  | .non => some true
  | .fn _ => none
  | _ => some false
def isN (d : D) : Option D := (isNB d).map .bl
def notN (d : D) : Option D := (isNB d).map fun b => .bl (!b)
theorem isNB_of {K : Kx} {c : Option Addr} {I : Hp} {v : V} {d : D} {b : Bool} (r : Rep K c I v d) (h : isNB d = some b) : decide (v = .non) = b := by
  cases r with
  | non => cases h; rfl
  | fn v => cases h
  | _ => cases h; rfl
theorem s1_isN {K : Kx} : Snd1 K (fun x H Q => Q (.bl (decide (x = .non))) H) isN := fun c I H x d z s rx h Q q => by
  obtain ⟨b, h0, rfl⟩ := map_some_of h
  show Q (.bl (decide (x = .non))) H
  rw [isNB_of rx h0]
  exact q.val s (.bl _)
theorem s1_notN {K : Kx} : Snd1 K (fun x H Q => Q (.bl (!decide (x = .non))) H) notN := fun c I H x d z s rx h Q q => by
  obtain ⟨b, h0, rfl⟩ := map_some_of h
  show Q (.bl (!decide (x = .non))) H
  rw [isNB_of rx h0]
  exact q.val s (.bl _)
theorem ee_isN {j : Nat} {p' : Pos} (ha : EE X a ta da) : EE X (.Compare a [.Is] [.Constant .none j p'] pos) (tIsN ta) (dUn isN da) := ⟨pe_cmp (pc_isN ha.p) rfl, (sn_un ha.s s1_isN : SndE X.kx (fun σ H Q => ta σ H fun x H1 => (fun x H Q => Q (V.bl (decide (x = .non))) H) x H1 Q) _)⟩
theorem ee_notN {j : Nat} {p' : Pos} (ha : EE X a ta da) : EE X (.Compare a [.IsNot] [.Constant .none j p'] pos) (tNotN ta) (dUn notN da) := ⟨pe_cmp (pc_notN ha.p) rfl, (sn_un ha.s s1_notN : SndE X.kx (fun σ H Q => ta σ H fun x H1 => (fun x H Q => Q (V.bl (!decide (x = .non))) H) x H1 Q) _)⟩
theorem et_isN {j : Nat} {p' : Pos} (ha : EE X a ta da) : ET X (.Compare a [.Is] [.Constant .none j p'] pos) (tB (tIsN ta)) (dB (dUn isN da)) := ⟨pt_cmp (pc_isN ha.p) rfl, sn_B (sn_un ha.s s1_isN : SndE X.kx (fun σ H Q => ta σ H fun x H1 => (fun x H Q => Q (V.bl (decide (x = .non))) H) x H1 Q) _)⟩
theorem et_notN {j : Nat} {p' : Pos} (ha : EE X a ta da) : ET X (.Compare a [.IsNot] [.Constant .none j p'] pos) (tB (tNotN ta)) (dB (dUn notN da)) := ⟨pt_cmp (pc_notN ha.p) rfl, sn_B (sn_un ha.s s1_notN : SndE X.kx (fun σ H Q => ta σ H fun x H1 => (fun x H Q => Q (V.bl (!decide (x = .non))) H) x H1 Q) _)⟩
theorem ee_chain {op op' : CmpOp} {r r' : R2} {f g : D → D → Option D} (h : CM X op r f) (h' : CM X op' r' g) (ha : EE X a ta da) (hb : EE X b tb db) (hc : EE X d tc dc) (hm : lastMarks [op, op'] [b, d] = false := by rfl) :
    EE X (.Compare a [op, op'] [b, d] pos) (tChain r r' ta tb tc) (dChain f g da db dc) := ⟨pe_chain h.o h'.o ha.p hb.p hc.p hm, sn_chain ha.s hb.s hc.s h.s h'.s⟩
theorem et_val (ha : EE X e te da) (he : ∀ whole, isTrue e X.env whole = (do let v ← whole; standAt e.pos; holding [v] (truthy v)) := by intro _; rfl) : ET X e (tB te) (dB da) := ⟨pt_val ha.p he, sn_B ha.s⟩
theorem et_not (ha : ET X a tA bA) : ET X (.UnaryOp .Not a pos) (tNot tA) (dNot bA) := ⟨pt_not ha.p, sn_not ha.s⟩
/-- and, or as tests -/
structure EW (X : Cx) (e : Expr) (te : TT) (dn : Dt) : Prop where
  p : PW X e te
  s : SndT X.kx te dn
theorem ew_and1 (ha : ET X a tA bA) : EW X (.BoolOp .And [a] pos) tA bA := ⟨pw_and1 ha.p, ha.s⟩
theorem ew_or1 (ha : ET X a tA bA) : EW X (.BoolOp .Or [a] pos) tA bA := ⟨pw_or1 ha.p, ha.s⟩
theorem ew_and (ha : ET X a tA bA) (hb : EW X (.BoolOp .And (b :: es) pos) tB' bB) : EW X (.BoolOp .And (a :: b :: es) pos) (tAnd tA tB') (dAnd bA bB) := ⟨pw_and ha.p hb.p, sn_and ha.s hb.s⟩
theorem ew_or (ha : ET X a tA bA) (hb : EW X (.BoolOp .Or (b :: es) pos) tB' bB) : EW X (.BoolOp .Or (a :: b :: es) pos) (tOr tA tB') (dOr bA bB) := ⟨pw_or ha.p hb.p, sn_or ha.s hb.s⟩
theorem EW.t (h : EW X e tA bA) : ET X e tA bA := ⟨h.p.pt, h.s⟩
theorem ee_one {op : BoolOp} (ha : EE X a ta da) : EE X (.BoolOp op [a] pos) ta da := ⟨pe_one ha.p, ha.s⟩
theorem ee_and (ha : EE X a ta da) (hb : EE X (.BoolOp .And (b :: es) pos) tb db) : EE X (.BoolOp .And (a :: b :: es) pos) (tAndV ta tb) (dAndV da db) := ⟨pe_and ha.p hb.p, sn_andV ha.s hb.s⟩
theorem ee_or (ha : EE X a ta da) (hb : EE X (.BoolOp .Or (b :: es) pos) tb db) : EE X (.BoolOp .Or (a :: b :: es) pos) (tOrV ta tb) (dOrV da db) := ⟨pe_or ha.p hb.p, sn_orV ha.s hb.s⟩
theorem ee_not (ha : EE X a ta da) : EE X (.UnaryOp .Not a pos) (tNotV ta) (dNotV da) := ⟨pe_not ha.p, sn_notV ha.s⟩
theorem ee_if {t : Expr} (ht : ET X t tA bA) (ha : EE X a ta da) (hb : EE X b tb db) : EE X (.IfExp t a b pos) (tIf tA ta tb) (dIf bA da db) := ⟨pe_ifExp ht.p ha.p hb.p, sn_if ht.s ha.s hb.s⟩
theorem ea_nil : EA X [] tNil dNil := ⟨pa_nil, sn_nil⟩
theorem ea_cons (ha : EE X e te da) (hr : EA X es tx ax) (hs : starEach (e :: es) X.env = (false, eval e X.env) :: starEach es X.env := by rfl) : EA X (e :: es) (tCons te tx) (dCons da ax) := ⟨pa_cons ha.p hr.p hs, sn_cons ha.s hr.s⟩
theorem ea_star (ha : EE X e te da) (hr : EA X es tx ax) (hs : starEach (.Starred e p :: es) X.env = (true, eval e X.env) :: starEach es X.env := by rfl) : EA X (.Starred e p :: es) (tStar X.kx te tx) (dStar da ax) := ⟨pa_star ha.p hr.p hs, sn_star ha.s hr.s⟩
theorem ee_tup {k : Nat} (h : EA X es tx ax) : EE X (.Tuple es k pos) (tTupF tx) (dTup ax) := ⟨pe_tupF h.p, sn_tup h.s⟩
theorem ee_lst (h : EA X es tx ax) : EE X (.List es pos) (tLst tx) (dLst ax) := ⟨pe_lst h.p, sn_lst h.s⟩
theorem ee_ix (ha : EE X a ta da) (hb : EE X b tb db) (hs : PlainIx b := by exact fun _ _ => rfl) : EE X (.Subscript a b pos) (tOp (rIx X.kx) ta tb) (dOp ixD da db) := ⟨pe_ix ix_seq ha.p hb.p hs, sn_op ha.s hb.s s2_ix⟩
theorem eo_none : EO X none tNoPart dNone := ⟨po_none, sn_nopart⟩
theorem eo_some (ha : EE X a ta da) : EO X (some a) (tPart ta) (dSome da) := ⟨po_some ha.p, sn_part ha.s⟩
theorem ee_sl {lo hi : Option Expr} {tl th : TO} {dl dh : Do} {p2 : Pos} (ha : EE X a ta da) (hl : EO X lo tl dl) (hh : EO X hi th dh) : EE X (.Subscript a (.Slice lo hi none p2) pos) (tSl (rSlAny X.kx) ta tl th) (dSl slD da dl dh) :=
  ⟨pe_slice sl_any ha.p hl.p hh.p, sn_sl ha.s hl.s hh.s ss_sl⟩
theorem ee_callB {id : String} {x : Str} {r : List V → Hp → VK → Prop} {f : List D → Option D} (hc : CallR X (.builtin id) r) (hs : SndL X.kx r f) (hg : Gl X x) (hm : X.mg x = none) (hv : bootBuiltins x = some (.builtin id)) (ha : EA X (e :: es) tx ax) (hn : x ≠ "__name__" := by decide) (hdb : (x == ("__debug__" : Str)) = false := by decide)
    (he : starEach (e :: es) X.env = (false, eval e X.env) :: starEach es X.env := by rfl) (hpl : (backTo pos (starEach es X.env)).any (fun z => z.1) = false := by rfl) : EE X (.Call (.Name x p) (e :: es) [] pos) (tCB r tx) (dCallB f ax) :=
  ⟨pe_callB hc hg hm hv ha.p hn hdb he hpl, sn_callB ha.s hs⟩
theorem ee_callT {T : String} {x : Str} {r : List V → Hp → VK → Prop} {f : List D → Option D} (hc : CallR X (.type T) r) (hs : SndL X.kx r f) (hg : Gl X x) (hm : X.mg x = none) (hv : bootBuiltins x = some (.type T)) (ha : EA X (e :: es) tx ax) (hn : x ≠ "__name__" := by decide) (hdb : (x == ("__debug__" : Str)) = false := by decide)
    (he : starEach (e :: es) X.env = (false, eval e X.env) :: starEach es X.env := by rfl) (hpl : (backTo pos (starEach es X.env)).any (fun z => z.1) = false := by rfl) : EE X (.Call (.Name x p) (e :: es) [] pos) (tCB r tx) (dCallB f ax) :=
  ⟨pe_callTy hc hg hm hv ha.p hn hdb he hpl, sn_callB ha.s hs⟩
end

/-! built-ins -/
section
variable {K : Kx}
def lenD : List D → Option D
  | [.str z] => if z.length ≤ 1000000 then some (.int z.length) else none
  | [.sl ns] => some (.int ns.length)
  | [d] => d.its.map fun xs => .int xs.length
  | _ => none
def rLenA (K : Kx) : List V → Hp → VK → Prop := fun xs H Q => ∃ x n, xs = [x] ∧ LenV K x H n ∧ Q (.int n) H
theorem sl_len : SndL K (rLenA K) lenD := fun c I H xs ds z s rx h Q q => by
  unfold lenD at h
  split at h
  · split at h
    · rename_i hl
      cases h
      cases rx with
      | cons a r => cases r; cases a; exact ⟨_, _, rfl, ⟨mil hl, rfl⟩, q.val s (.int _)⟩
    · cases h
  · cases h
    cases rx with
    | cons a r => cases r; cases a with
      | sl hs => exact ⟨_, _, rfl, .inl ⟨_, s.sqL hs, by rw [List.length_map]⟩, q.val s (.int _)⟩
  · obtain ⟨xs, h1, rfl⟩ := map_some_of h
    cases rx with
    | cons a r =>
      cases r
      obtain ⟨p, vs, rfl, hp, rp⟩ := a.its h1
      refine ⟨_, _, rfl, ?_, q.val s (.int _)⟩
      rcases hp with hp | hp
      · exact .inr ⟨_, s.sqT hp, rp.length.symm⟩
      · exact .inl ⟨_, s.sqL hp, rp.length.symm⟩
  · cases h
def intD : List D → Option D
  | [.int i] => some (.int i)
  | _ => none
def rIntA : List V → Hp → VK → Prop := fun xs H Q => (∃ i, xs = [.int i] ∧ Q (.int i) H) ∨ ∃ k, xs = [.bl k] ∧ Q (.int (if k then 1 else 0)) H
theorem sl_int : SndL K rIntA intD := fun c I H xs ds z s rx h Q q => by
  unfold intD at h
  split at h
  · cases h
    cases rx with
    | cons a r => cases r; cases a; exact .inl ⟨_, rfl, q.val s (.int _)⟩
  · cases h
def tupleD : List D → Option D
  | [.lst xs] => some (.tup xs)
  | [.tup xs] => some (.tup xs)
  | [.ktp xs] => some (.ktp xs)
  | _ => none
theorem sl_tuple : SndL K (rTupOf K) tupleD := fun c I H xs ds z s rx h Q q => by
  unfold tupleD at h
  split at h
  · cases h
    cases rx with
    | cons a r => cases r; cases a with
      | lst h1 r1 => exact ⟨_, _, rfl, .inl ⟨.of (s.lst h1), fun l o hl ho => q.tup s hl ho r1⟩⟩
  · cases h
    cases rx with
    | cons a r => cases r; cases a with
      | tup h1 ho r1 => exact ⟨_, _, rfl, .inr ⟨.inl (s.rdT (.inr ⟨_, h1⟩)), q.val s (.tup h1 ho r1)⟩⟩
  · cases h
    cases rx with
    | cons a r => cases r; cases a with
      | ktp h1 r1 => exact ⟨_, _, rfl, .inr ⟨s.sqT h1, q.val s (.ktp h1 r1)⟩⟩
  · cases h
def boolsOf : List D → Option (List Bool)
  | [] => some []
  | .bl b :: r => (boolsOf r).map fun bs => b :: bs
  | _ :: _ => none
theorem boolsOf_rep {c : Option Addr} {I : Hp} : ∀ {vs : List V} {ds : List D} {bs : List Bool}, RepL K c I vs ds → boolsOf ds = some bs → vs = bs.map V.bl
  | _, _, _, .nil, h => by cases h; rfl
  | _, _, _, .cons a r, h => by
    cases a with
    | bl b =>
      obtain ⟨bs, h1, rfl⟩ := map_some_of h
      rw [boolsOf_rep r h1]; rfl
    | _ => cases h
def anyD : List D → Option D
  | [.lst xs] => (boolsOf xs).map fun bs => .bl (bs.any id)
  | _ => none
def allD : List D → Option D
  | [.lst xs] => (boolsOf xs).map fun bs => .bl (bs.all id)
  | _ => none
theorem sl_anyB : SndL K (rAny K) anyD := fun c I H xs ds z s rx h Q q => by
  unfold anyD at h
  split at h
  · obtain ⟨bs, h1, rfl⟩ := map_some_of h
    cases rx with
    | cons a r => cases r; cases a with
      | lst h2 r1 =>
        rw [boolsOf_rep r1 h1] at h2
        exact ⟨_, bs, rfl, .of (s.lst h2), q.val s (.bl _)⟩
  · cases h
theorem sl_allB : SndL K (rAll K) allD := fun c I H xs ds z s rx h Q q => by
  unfold allD at h
  split at h
  · obtain ⟨bs, h1, rfl⟩ := map_some_of h
    cases rx with
    | cons a r => cases r; cases a with
      | lst h2 r1 =>
        rw [boolsOf_rep r1 h1] at h2
        exact ⟨_, bs, rfl, .of (s.lst h2), q.val s (.bl _)⟩
  · cases h
def intsOf : List D → Option (List Int)
  | [] => some []
  | .int b :: r => (intsOf r).map fun bs => b :: bs
  | _ :: _ => none
theorem intsOf_rep {c : Option Addr} {I : Hp} : ∀ {vs : List V} {ds : List D} {bs : List Int}, RepL K c I vs ds → intsOf ds = some bs → vs = bs.map V.int
  | _, _, _, .nil, h => by cases h; rfl
  | _, _, _, .cons a r, h => by
    cases a with
    | int b =>
      obtain ⟨bs, h1, rfl⟩ := map_some_of h
      rw [intsOf_rep r h1]; rfl
    | _ => cases h
def strsOf : List D → Option (List Str)
  | [] => some []
  | .str b :: r => (strsOf r).map fun bs => b :: bs
  | _ :: _ => none
theorem strsOf_rep {c : Option Addr} {I : Hp} : ∀ {vs : List V} {ds : List D} {bs : List Str}, RepL K c I vs ds → strsOf ds = some bs → vs = bs.map V.str
  | _, _, _, .nil, h => by cases h; rfl
  | _, _, _, .cons a r, h => by
    cases a with
    | str b =>
      obtain ⟨bs, h1, rfl⟩ := map_some_of h
      rw [strsOf_rep r h1]; rfl
    | _ => cases h
def sumD : List D → Option D
  | [.lst xs] => (intsOf xs).map fun bs => .int bs.sum
  | _ => none
theorem sl_sum : SndL K (rSum K) sumD := fun c I H xs ds z s rx h Q q => by
  unfold sumD at h
  split at h
  · obtain ⟨bs, h1, rfl⟩ := map_some_of h
    cases rx with
    | cons a r => cases r; cases a with
      | lst h2 r1 =>
        rw [intsOf_rep r1 h1] at h2
        exact ⟨_, bs, rfl, .of (s.lst h2), q.val s (.int _)⟩
  · cases h
def maxD : List D → Option D
  | [.int i, .int j] => some (.int (if j > i then j else i))
  | _ => none
def minD : List D → Option D
  | [.int i, .int j] => some (.int (if j < i then j else i))
  | _ => none
def rMax2 : List V → Hp → VK → Prop := fun xs H Q => ∃ i j, xs = [.int i, .int j] ∧ Q (.int (if j > i then j else i)) H
def rMin2 : List V → Hp → VK → Prop := fun xs H Q => ∃ i j, xs = [.int i, .int j] ∧ Q (.int (if j < i then j else i)) H
theorem sl_max : SndL K rMax2 maxD := fun c I H xs ds z s rx h Q q => by
  unfold maxD at h
  split at h
  · cases h
    cases rx with
    | cons a r => cases r with
      | cons b r => cases r; cases a; cases b; exact ⟨_, _, rfl, q.val s (.int _)⟩
  · cases h
theorem sl_min : SndL K rMin2 minD := fun c I H xs ds z s rx h Q q => by
  unfold minD at h
  split at h
  · cases h
    cases rx with
    | cons a r => cases r with
      | cons b r => cases r; cases a; cases b; exact ⟨_, _, rfl, q.val s (.int _)⟩
  · cases h
/-! kinds -/
def D.ty : D → Option String
  | .non => some "NoneType"
  | .bl _ => some "bool"
  | .int _ => some "int"
  | .str _ => some "str"
  | .tup _ => some "tuple"
  | .ktp _ => some "tuple"
  | .lst _ => some "list"
  | _ => none
theorem Rep.tyX {c : Option Addr} {I H : Hp} {v : V} {d : D} {t : String} (s : Sub I H) (r : Rep K c I v d) (h : d.ty = some t) : TyX K H v (.type t) := by
  cases r with
  | non => cases h; exact .base .non
  | bl b => cases h; exact .base (.bl b)
  | int b => cases h; exact .base (.int b)
  | str b => cases h; exact .base (.str b)
  | tup h1 _ _ => cases h; exact .fTuple (s.get h1 fun _ z => by cases z)
  | ktp h1 _ =>
    cases h
    rcases s.sqT h1 with (h1 | ⟨o, h1⟩) | ⟨o, its, n, h1, h2, _⟩
    · exact .base (.tup h1)
    · exact .fTuple h1
    · exact .kTuple h1 h2
  | lst h1 _ => cases h; exact .base (.lst (s.lst h1))
  | _ => cases h
/-- the types that are asked -/
def tyB (t u : String) : Bool := t == u || (t == "bool" && u == "int")
def tysAsked : List String := ["NoneType", "bool", "int", "str", "tuple", "list"]
theorem kit_all : (tysAsked.all fun t => ["int", "str", "tuple", "list", "bool"].all fun u => decide (kitB t u = some (tyB t u))) = true := by decide +kernel
theorem kit_tyB {t u : String} (ht : t ∈ tysAsked) (hu : u ∈ ["int", "str", "tuple", "list", "bool"]) : PySem.W.kitOne K (.type t) (.type u) = some (tyB t u) :=
  kit_ty (of_decide_eq_true (List.all_eq_true.mp (List.all_eq_true.mp kit_all t ht) u hu))
theorem D.ty_asked {d : D} {t : String} (h : d.ty = some t) : t ∈ tysAsked := by
  cases d <;> cases h <;> decide
def isiD (u : String) (d : D) : Option D := d.ty.map fun t => .bl (tyB t u)
def isi2D (u w : String) (d : D) : Option D := d.ty.map fun t => .bl (tyB t u || tyB t w)
/-- isinstance(e, T) -/
def tIsi (K : Kx) (te tc : TE) : TE := tCB (rIsi K) (tCons te (tCons tc tNil))
theorem sn_isi {te : TE} {da : Dn} {u : String} (hu : u ∈ ["int", "str", "tuple", "list", "bool"]) (h1 : SndE K te da) : SndE K (tIsi K te (tC (.ty u))) (dUn (isiD u) da) := fun c I H σ ρ s d s' e h Q q => by
  obtain ⟨⟨x, s1⟩, h2, h⟩ := bind_some_of h
  obtain ⟨z, h3, h⟩ := map_some_of h
  cases h
  obtain ⟨t, h4, rfl⟩ := map_some_of h3
  refine h1 _ _ _ _ _ _ _ _ e h2 _ fun v I1 H1 g1 w1 r1 => ?_
  exact ⟨v, .ty u, .type t, .type u, tyB t u, rfl, .ty u, r1.tyX g1.s2 h4, kit_tyB (D.ty_asked h4) hu, q _ _ _ g1 w1 (.bl _)⟩
/-- isinstance(e, (T, U)) -/
def tIsi2 (K : Kx) (te tc tc2 : TE) : TE := tCB (rIsiT K) (tCons te (tCons (tTup (tCons tc (tCons tc2 tNil))) tNil))
theorem sn_isi2 {te : TE} {da : Dn} {u u2 : String} (hu : u ∈ ["int", "str", "tuple", "list", "bool"]) (hu2 : u2 ∈ ["int", "str", "tuple", "list", "bool"]) (h1 : SndE K te da) : SndE K (tIsi2 K te (tC (.ty u)) (tC (.ty u2))) (dUn (isi2D u u2) da) := fun c I H σ ρ s d s' e h Q q => by
  obtain ⟨⟨x, s1⟩, h2, h⟩ := bind_some_of h
  obtain ⟨z, h3, h⟩ := map_some_of h
  cases h
  obtain ⟨t, h4, rfl⟩ := map_some_of h3
  refine h1 _ _ _ _ _ _ _ _ e h2 _ fun v I1 H1 g1 w1 r1 => ⟨by show 2 ≤ sizeLine; decide, fun p hp => ?_⟩
  have g := Gr.new (o := .tup [.ty u, .ty u2]) g1.s2 hp
  have r2 := r1.mono g.s1
  refine ⟨v, p, _, .type t, [.type u, .type u2], tyB t u || tyB t u2, rfl, upd_same, .cons (.ty u) (.cons (.ty u2) .nil), r2.tyX g.s2 h4, ?_, q _ _ _ (g1.tr w1 g.up) (w1.gr g) (.bl _)⟩
  have k1 : PySem.W.kitOne K (.type t) (.type u) = some (tyB t u) := kit_tyB (D.ty_asked h4) hu
  have k2 : PySem.W.kitOne K (.type t) (.type u2) = some (tyB t u2) := kit_tyB (D.ty_asked h4) hu2
  refine kitAny_cons k1 (fun hb => ?_) (fun hb => by rw [hb]; rfl)
  rw [hb]
  exact kitAny_cons k2 (fun hb => by rw [hb]; exact kitAny_nil) (fun hb => by rw [hb]; rfl)
end
section
variable {X : Cx} {e : Expr} {te : TE} {da : Dn} {pos p p2 p3 p4 : Pos}
theorem ee_isi {y : Str} {u : String} (hu : u ∈ ["int", "str", "tuple", "list", "bool"]) (hg : Gl X "isinstance") (hm : X.mg "isinstance" = none) (hgy : Gl X y) (hmy : X.mg y = none) (hvy : bootBuiltins y = some (.type u)) (ha : EE X e te da) (hny : y ≠ "__name__" := by decide) (hdy : (y == ("__debug__" : Str)) = false := by decide)
    (hs : starEach (e :: [.Name y p2]) X.env = (false, eval e X.env) :: starEach [.Name y p2] X.env := by rfl) (hs2 : starEach [.Name y p2] X.env = (false, eval (.Name y p2) X.env) :: starEach [] X.env := by rfl) (hpl : (backTo pos (starEach [.Name y p2] X.env)).any (fun z => z.1) = false := by rfl) :
    EE X (.Call (.Name "isinstance" p) [e, .Name y p2] [] pos) (tIsi X.kx te (tC (.ty u))) (dUn (isiD u) da) :=
  ⟨pe_callB call_isi hg hm (by decide +kernel) (pa_cons ha.p (pa_cons (pe_bltn (v := .ty u) hgy hmy hvy rfl hny hdy) pa_nil hs2) hs) (by decide) (by decide) hs hpl, sn_isi hu ha.s⟩
theorem ee_isi2 {y z : Str} {u w : String} {k : Nat} (hu : u ∈ ["int", "str", "tuple", "list", "bool"]) (hw : w ∈ ["int", "str", "tuple", "list", "bool"]) (hg : Gl X "isinstance") (hm : X.mg "isinstance" = none) (hgy : Gl X y) (hmy : X.mg y = none) (hvy : bootBuiltins y = some (.type u))
    (hgz : Gl X z) (hmz : X.mg z = none) (hvz : bootBuiltins z = some (.type w)) (ha : EE X e te da) (hny : y ≠ "__name__" := by decide) (hdy : (y == ("__debug__" : Str)) = false := by decide) (hnz : z ≠ "__name__" := by decide) (hdz : (z == ("__debug__" : Str)) = false := by decide)
    (hs : starEach (e :: [.Tuple [.Name y p2, .Name z p3] k p4]) X.env = (false, eval e X.env) :: starEach [.Tuple [.Name y p2, .Name z p3] k p4] X.env := by rfl)
    (hs2 : starEach [.Tuple [.Name y p2, .Name z p3] k p4] X.env = (false, eval (.Tuple [.Name y p2, .Name z p3] k p4) X.env) :: starEach [] X.env := by rfl)
    (hs3 : starEach [.Name y p2, .Name z p3] X.env = (false, eval (.Name y p2) X.env) :: starEach [.Name z p3] X.env := by rfl) (hs4 : starEach [.Name z p3] X.env = (false, eval (.Name z p3) X.env) :: starEach [] X.env := by rfl)
    (hpl : (backTo pos (starEach [.Tuple [.Name y p2, .Name z p3] k p4] X.env)).any (fun z => z.1) = false := by rfl) :
    EE X (.Call (.Name "isinstance" p) [e, .Tuple [.Name y p2, .Name z p3] k p4] [] pos) (tIsi2 X.kx te (tC (.ty u)) (tC (.ty w))) (dUn (isi2D u w) da) :=
  ⟨pe_callB call_isiT hg hm (by decide +kernel) (pa_cons ha.p (pa_cons (pe_tup (pa_cons (pe_bltn (v := .ty u) hgy hmy hvy rfl hny hdy) (pa_cons (pe_bltn (v := .ty w) hgz hmz hvz rfl hnz hdz) pa_nil hs4) hs3)) pa_nil hs2) hs) (by decide) (by decide) hs hpl, sn_isi2 hu hw ha.s⟩
end
end Dl
end
section
set_option Elab.async false
set_option linter.all false
set_option maxRecDepth 100000
set_option maxHeartbeats 4000000
namespace Dl
open PySem PySem.Spec PyProof.Rows L2 StX

/-! what is walked -/
section
variable {K : Kx} {c : Option Addr} {I : Hp}
theorem yl_list {a : Addr} {xs : List V} {ds : List D} (h : I a = some (.lst xs)) (r : RepL K c I xs ds) : Yl K c (Itl K a) I ds := fun I2 H2 sb s => by
  have h2 := sb _ _ h
  have hq : SqL K H2 a xs := .of (s.lst h2)
  refine ⟨fun i d e => ?_, ⟨xs, hq, by rw [r.length]; exact Nat.le_refl _⟩⟩
  obtain ⟨v, hv, rv⟩ := r.get e
  refine ⟨⟨xs, v, hq, hv⟩, fun x H3 hy => ?_⟩
  obtain ⟨rfl, hy⟩ := hy
  have := hy xs hq
  rw [hv] at this
  cases this
  exact ⟨I2, .refl s, rv.mono sb⟩
theorem yl_tup {a : Addr} {xs : List V} {ds : List D} (h : SqT K I a xs) (r : RepL K c I xs ds) : Yl K c (Itt K a) I ds := fun I2 H2 sb s => by
  have hq : SqT K H2 a xs := s.sqT (sb_sqT sb h)
  refine ⟨fun i d e => ?_, ⟨xs, hq, by rw [r.length]; exact Nat.le_refl _⟩⟩
  obtain ⟨v, hv, rv⟩ := r.get e
  refine ⟨⟨xs, v, hq, hv⟩, fun x H3 hy => ?_⟩
  obtain ⟨rfl, hy⟩ := hy
  have := hy xs hq
  rw [hv] at this
  cases this
  exact ⟨I2, .refl s, rv.mono sb⟩
def rngL (lo : Int) (n : Nat) : List D := (List.range n).map fun i => .int (lo + (i : Nat))
theorem yl_rng {lo : Int} {n : Nat} : Yl K c (Itr lo n) I (rngL lo n) := fun I2 H2 sb s => by
  refine ⟨fun i d e => ?_, by show n ≤ _; simp [rngL]⟩
  unfold rngL at e
  rw [List.getElem?_map] at e
  obtain ⟨j, hj, rfl⟩ := map_some_of e
  have hlt : i < n := by
    have := (List.getElem?_eq_some_iff.mp hj).1
    simpa using this
  rw [List.getElem?_range hlt] at hj
  cases hj
  refine ⟨hlt, fun x H3 hy => ?_⟩
  obtain ⟨rfl, rfl⟩ := hy
  exact ⟨I2, .refl s, .int _⟩
def chL (x : Str) : List D := x.cps.toList.map fun k => .str ⟨#[k]⟩
theorem yl_str {x : Str} : Yl K c (Its x) I (chL x) := fun I2 H2 sb s => by
  refine ⟨fun i d e => ?_, by show x.cps.size ≤ _; simp [chL]⟩
  unfold chL at e
  rw [List.getElem?_map] at e
  obtain ⟨j, hj, rfl⟩ := map_some_of e
  have hlt : i < x.cps.size := by
    have := (List.getElem?_eq_some_iff.mp hj).1
    simpa using this
  refine ⟨hlt, fun y H3 hy => ?_⟩
  obtain ⟨rfl, k, hk, rfl⟩ := hy
  have : some j = some k := by rw [← hj, ← hk]; simp
  cases this
  exact ⟨I2, .refl s, .str _⟩
end
def dItL (da : Dn) : Da := fun ρ s => (da ρ s).bind fun p => match p.1 with
  | .lst xs => some (xs, p.2)
  | _ => none
def dItT (da : Dn) : Da := fun ρ s => (da ρ s).bind fun p => p.1.asT.map fun xs => (xs, p.2)
def dItS (da : Dn) : Da := fun ρ s => (da ρ s).bind fun p => match p.1 with
  | .str x => some (chL x, p.2)
  | _ => none
def dRng1 (da : Da) : Da := fun ρ s => (da ρ s).bind fun p => match p.1 with
  | [.int j] => if decide (-1000000 ≤ j ∧ j ≤ 1000000) = true then some (rngL 0 j.toNat, p.2) else none
  | _ => none
def dRng2 (da : Da) : Da := fun ρ s => (da ρ s).bind fun p => match p.1 with
  | [.int i, .int j] => if decide (-1000000 ≤ i ∧ i ≤ 1000000 ∧ -1000000 ≤ j ∧ j ≤ 1000000) = true then some (rngL i (j - i).toNat, p.2) else none
  | _ => none
section
variable {K : Kx} {te : TE} {da : Dn} {tx : TA} {ax : Da}
theorem si_list (h1 : SndE K te da) : SndI K (iList K te) (dItL da) := fun c I H σ ρ s xs s' e h R q => by
  obtain ⟨⟨x, s1⟩, h2, h⟩ := bind_some_of h
  refine h1 _ _ _ _ _ _ _ _ e h2 _ fun v I1 H1 g1 w1 r1 => ?_
  cases r1 with
  | lst hl rl => cases h; exact ⟨_, rfl, ⟨_, .of (g1.s2.lst hl)⟩, q _ I1 H1 g1 w1 (yl_list hl rl)⟩
  | _ => cases h
theorem si_tup (h1 : SndE K te da) : SndI K (iTup K te) (dItT da) := fun c I H σ ρ s xs s' e h R q => by
  obtain ⟨⟨x, s1⟩, h2, h⟩ := bind_some_of h
  obtain ⟨ds, h3, h⟩ := map_some_of h
  cases h
  refine h1 _ _ _ _ _ _ _ _ e h2 _ fun v I1 H1 g1 w1 r1 => ?_
  obtain ⟨a, vs, rfl, ha, ra⟩ := r1.asT h3
  exact ⟨_, rfl, ⟨_, g1.s2.sqT ha⟩, q _ I1 H1 g1 w1 (yl_tup ha ra)⟩
theorem si_str (h1 : SndE K te da) : SndI K (iStr te) (dItS da) := fun c I H σ ρ s xs s' e h R q => by
  obtain ⟨⟨x, s1⟩, h2, h⟩ := bind_some_of h
  refine h1 _ _ _ _ _ _ _ _ e h2 _ fun v I1 H1 g1 w1 r1 => ?_
  cases r1 with
  | str x => cases h; exact ⟨_, rfl, q _ I1 H1 g1 w1 yl_str⟩
  | _ => cases h
theorem si_rng1 (h1 : SndA K tx ax) : SndI K (iRng1 tx) (dRng1 ax) := fun c I H σ ρ s xs s' e h R q => by
  obtain ⟨⟨x, s1⟩, h2, h⟩ := bind_some_of h
  refine h1 _ _ _ _ _ _ _ _ e h2 _ fun v I1 H1 g1 w1 r1 => ?_
  split at h
  · rename_i j hj
    split at h
    · rename_i hb
      have hb := of_decide_eq_true hb
      cases h
      have hj' : x = [D.int j] := hj
      subst hj'
      cases r1 with
      | cons a r => cases r; cases a; exact ⟨j, rfl, by omega, by omega, q _ I1 H1 g1 w1 yl_rng⟩
    · cases h
  · cases h
theorem si_rng2 (h1 : SndA K tx ax) : SndI K (iRng2 tx) (dRng2 ax) := fun c I H σ ρ s xs s' e h R q => by
  obtain ⟨⟨x, s1⟩, h2, h⟩ := bind_some_of h
  refine h1 _ _ _ _ _ _ _ _ e h2 _ fun v I1 H1 g1 w1 r1 => ?_
  split at h
  · rename_i i j hj
    split at h
    · rename_i hb
      have hb := of_decide_eq_true hb
      cases h
      have hj' : x = [D.int i, D.int j] := hj
      subst hj'
      cases r1 with
      | cons a r => cases r with
        | cons b r => cases r; cases a; cases b; exact ⟨i, j, rfl, ⟨by omega, by omega, by omega, by omega⟩, q _ I1 H1 g1 w1 yl_rng⟩
    · cases h
  · cases h
end
section
variable {X : Cx} {tg e a b : Expr} {te : TE} {da : Dn} {tx : TA} {ax : Da} {p pos : Pos}
theorem ei_list (h : EE X e te da) : EI X tg e (iList X.kx te) (dItL da) := ⟨pi_list h.p, si_list h.s⟩
theorem ei_tup (h : EE X e te da) : EI X tg e (iTup X.kx te) (dItT da) := ⟨pi_tup h.p, si_tup h.s⟩
theorem ei_str (h : EE X e te da) : EI X tg e (iStr te) (dItS da) := ⟨pi_str h.p, si_str h.s⟩
theorem ei_rng1 (hg : Gl X "range") (hm : X.mg "range" = none) (ha : EA X [a] tx ax) (hs : starEach [a] X.env = [(false, eval a X.env)] := by rfl) : EI X tg (.Call (.Name "range" p) [a] [] pos) (iRng1 tx) (dRng1 ax) := ⟨pi_range1 hg hm ha.p hs, si_rng1 ha.s⟩
theorem ei_rng2 (hg : Gl X "range") (hm : X.mg "range" = none) (ha : EA X [a, b] tx ax) (hs : starEach [a, b] X.env = [(false, eval a X.env), (false, eval b X.env)] := by rfl) (hs2 : starEach [b] X.env = [(false, eval b X.env)] := by rfl) :
    EI X tg (.Call (.Name "range" p) [a, b] [] pos) (iRng2 tx) (dRng2 ax) := ⟨pi_range2 hg hm ha.p hs hs2, si_rng2 ha.s⟩
theorem et_chain {op op' : CmpOp} {r r' : R2} {f g : D → D → Option D} {x y z : Expr} {t1 t2 t3 : TE} {d1 d2 d3 : Dn} (h : CM X op r f) (h' : CM X op' r' g) (ha : EE X x t1 d1) (hb : EE X y t2 d2) (hc : EE X z t3 d3) (hm : lastMarks [op, op'] [y, z] = false := by with_unfolding_all rfl) :
    ET X (.Compare x [op, op'] [y, z] pos) (tTest (tChain r r' t1 t2 t3)) (dB (dChain f g d1 d2 d3)) := ⟨pt_chain h.o h'.o ha.p hb.p hc.p hm, sn_test (sn_chain ha.s hb.s hc.s h.s h'.s)⟩
end

/-! comprehensions -/
def wipeD (ρ : List Sl) : List Nat → List Sl
  | [] => ρ
  | v :: vs => (wipeD ρ vs).set v .un
section
variable {K : Kx} {c : Option Addr} {I H : Hp}
theorem SlL.wipe {σ : L2.St} {ρ : List Sl} (h : SlL K c I H σ ρ) : ∀ vs, SlL K c I H (L2.wipe σ vs) (wipeD ρ vs)
  | [] => h
  | v :: vs => .set (.un _) v (SlL.wipe h vs)
theorem Uq.wipe {σ : L2.St} {ρ : List Sl} (h : Uq σ ρ) : ∀ vs, Uq (L2.wipe σ vs) (wipeD ρ vs)
  | [] => h
  | v :: vs => (Uq.wipe h vs).setI fun _ z => by cases z
theorem Ec.wipe {σ : L2.St} {ρ : List Sl} {s : Tau} (e : Ec K c I H σ ρ s) (vs : List Nat) : Ec K c I H (L2.wipe σ vs) (wipeD ρ vs) s := ⟨e.sub, e.w, e.sl.wipe vs, e.uq.wipe vs⟩
theorem wipe_get (σ : L2.St) (k : Nat) : ∀ vs : List Nat, (L2.wipe σ vs)[k]? = if k ∈ vs ∧ k < σ.length then some none else σ[k]?
  | [] => by simp [L2.wipe]
  | v :: vs => by
    show ((L2.wipe σ vs).set v none)[k]? = _
    rw [List.getElem?_set, wipe_get σ k vs, L2.wipe_length]
    by_cases h : v = k
    · subst h
      by_cases h2 : v < σ.length
      · simp [h2]
      · simp [h2]
    · have : k ≠ v := fun z => h z.symm
      simp [h, this]
theorem wipe_wipe {σ σ' : L2.St} {vs js : List Nat} (hl : σ'.length = (L2.wipe σ vs).length) (hk : ∀ k, k ∉ js → σ'[k]? = (L2.wipe σ vs)[k]?) (hj : ∀ k ∈ js, k ∈ vs) : L2.wipe σ' vs = L2.wipe σ vs := by
  rw [L2.wipe_length] at hl
  apply List.ext_getElem?
  intro k
  rw [wipe_get, wipe_get, hl]
  by_cases h : k ∈ vs ∧ k < σ.length
  · rw [if_pos h, if_pos h]
  · rw [if_neg h, if_neg h]
    by_cases h2 : k ∈ js
    · have h3 := hj k h2
      have h4 : ¬ k < σ.length := fun z => h ⟨h3, z⟩
      rw [List.getElem?_eq_none (by omega), List.getElem?_eq_none (by omega)]
    · rw [hk k h2, wipe_get, if_neg h]
end
def lcGo (g : Dg) (bt : Dt) (de : Dn) (ρ : List Sl) : List D → Tau → Option (List D × Tau)
  | [], s => some ([], s)
  | x :: xs, s => (g x ρ).bind fun ρ1 => (bt ρ1 s).bind fun b => if b.1 = true then (de ρ1 b.2).bind fun y => (lcGo g bt de ρ xs y.2).map fun r => (y.1 :: r.1, r.2) else lcGo g bt de ρ xs b.2
theorem lcGo_len {g : Dg} {bt : Dt} {de : Dn} {ρ : List Sl} : ∀ {xs : List D} {s : Tau} {ys : List D} {s' : Tau}, lcGo g bt de ρ xs s = some (ys, s') → ys.length ≤ xs.length
  | [], s, ys, s', h => by cases h; exact Nat.le_refl _
  | x :: xs, s, ys, s', h => by
    obtain ⟨ρ1, _, h⟩ := bind_some_of h
    obtain ⟨⟨b, s1⟩, _, h⟩ := bind_some_of h
    split at h
    · obtain ⟨⟨y, s2⟩, _, h⟩ := bind_some_of h
      obtain ⟨⟨r, s3⟩, h3, h⟩ := map_some_of h
      cases h
      have := lcGo_len h3
      simp only [List.length_cons]; omega
    · have := lcGo_len h
      simp only [List.length_cons]; omega
def dLc (di : Da) (g : Dg) (bt : Dt) (de : Dn) (vs : List Nat) : Dn := fun ρ s => (di ρ s).bind fun p => if p.1.length ≤ 1000000 then (lcGo g bt de (wipeD ρ vs) p.1 p.2).map fun r => (.lst r.1, r.2) else none
def dYes : Dt := fun _ s => some (true, s)
theorem sn_yes {K : Kx} : SndT K tYes dYes := fun c I H σ ρ s b s' e h Q q => by
  cases h
  exact q _ _ (.refl e.sub) e.w
/-- what is walked, where nothing but the draws' list changes -/
def YlK (K : Kx) (c : Option Addr) (J : It) (I H : Hp) (xs : List D) : Prop := ∀ I2 H2, Sb I I2 → Sub I2 H2 → Kp c H H2 →
  (∀ (i : Nat) (d : D), xs[i]? = some d → J.go i H2 ∧ ∀ x H3, J.yld i H2 x H3 → ∃ I3, Gr none I2 H2 I3 H3 ∧ Rep K c I3 x d) ∧ J.stop xs.length H2
theorem lc_core {K : Kx} {wi : TI} {di : Da} {g : TG} {dg : Dg} {js vs : List Nat} {tt : TT} {bt : Dt} {te : TE} {de : Dn} (hg : SndG K g dg js) (hj : ∀ k ∈ js, k ∈ vs) (ht : SndT K tt bt) (he : SndE K te de)
    {c : Option Addr} {I H : Hp} {σ : L2.St} {ρ : List Sl} {s s' : Tau} {d : D} (e : Ec K c I H σ ρ s) (hi : ∀ xs s1, di ρ s = some (xs, s1) → ∀ R : It → Hp → Prop, (∀ J I' H', Gr c I H I' H' → DW K c s1 I' H' → YlK K c J I' H' xs → R J H') → wi σ H R)
    (h : dLc di dg bt de vs ρ s = some (d, s')) (Q : VK) (q : ∀ v I' H', Gr c I H I' H' → DW K c s' I' H' → Rep K c I' v d → Q v H') : tLc wi g tt te vs σ H Q := by
  obtain ⟨⟨xs, s1⟩, h1, h⟩ := bind_some_of h
  split at h
  · rename_i hlen
    have hlen : xs.length ≤ 1000000 := hlen
    obtain ⟨⟨ys, s2⟩, h2, h⟩ := map_some_of h
    cases h
    refine hi _ _ h1 _ fun J I1 H1 g1 w1 yl => fun Dl hD => ?_
    have ci : ∀ {o}, c ≠ some Dl ∨ o := fun {o} => by
      by_cases z : c = some Dl
      · obtain ⟨_, sc, z2, _⟩ := w1 Dl z
        rw [hD] at z2; cases z2
      · exact .inl z
    have cD : c ≠ some Dl := (ci (o := False)).elim id False.elim
    refine ⟨fun i m H' => m = xs.length - i ∧ i ≤ xs.length ∧ ∃ I' acc pre rest s3, Gr c I1 H1 I' H' ∧ I' Dl = none ∧ DW K c s3 I' H' ∧ H' Dl = some (.lst acc) ∧ RepL K c I' acc pre ∧ acc.length ≤ i ∧ lcGo dg bt de (wipeD ρ vs) (xs.drop i) s3 = some (rest, s2) ∧ pre ++ rest = ys, ?_, ?_⟩
    · have hI := g1.s2.free hD
      have s2' : Sub I1 (upd H1 Dl (.lst [])) := g1.s2.updH hI
      refine ⟨xs.length, by simp, Nat.zero_le _, I1, [], [], ys, s1, ⟨.refl _, s2', (Kp.refl _ _).updH hD, fun a z => .inl z⟩, hI, ?_, upd_same, .nil, Nat.le_refl _, by simpa using h2, rfl⟩
      intro r hr
      obtain ⟨z1, sc, z2, z3⟩ := w1 r hr
      exact ⟨z1, sc, by rw [upd_ne (ne_of_none z2 hD)]; exact z2, z3⟩
    · rintro i m H' ⟨rfl, hle, I', acc, pre, rest, s3, g', hID, w', hDl, racc, hal, hgo, hy⟩
      have kI : Kp c H1 H' := g'.kp
      obtain ⟨y1, y2⟩ := yl I' H' g'.s1 g'.s2 kI
      by_cases hlt : i < xs.length
      · obtain ⟨go, yld⟩ := y1 i xs[i] (List.getElem?_eq_getElem hlt)
        rw [List.drop_eq_getElem_cons hlt] at hgo
        obtain ⟨ρ1, hx, hgo⟩ := bind_some_of hgo
        obtain ⟨⟨b, s4⟩, hb, hgo⟩ := bind_some_of hgo
        refine .inr ⟨go, fun H'' => ∃ I'' acc pre rest s3, Gr c I1 H1 I'' H'' ∧ I'' Dl = none ∧ DW K c s3 I'' H'' ∧ H'' Dl = some (.lst acc) ∧ RepL K c I'' acc pre ∧ acc.length ≤ i + 1 ∧ lcGo dg bt de (wipeD ρ vs) (xs.drop (i + 1)) s3 = some (rest, s2) ∧ pre ++ rest = ys, fun H'' ⟨I'', a1, a2, a3, a4, z⟩ => ⟨xs.length - (i + 1), by omega, rfl, hlt, I'', a1, a2, a3, a4, z⟩, fun x H3 hyl => ?_⟩
        obtain ⟨I3, g3, r3⟩ := yld x H3 hyl
        have w3 := w'.gr g3
        have g13 := g'.tr w' (g3.up (c := c))
        have fr : ∀ {Ia Ha Ib Hb : Hp}, Gr c Ia Ha Ib Hb → Ia Dl = none → Ha Dl = some (.lst acc) → Ib Dl = none ∧ Hb Dl = some (.lst acc) := fun {Ia Ha Ib Hb} gg z1 z2 => by
          refine ⟨?_, gg.kp.get cD z2 nt_lst⟩
          cases qq : Ib Dl with
          | none => rfl
          | some o =>
            rcases gg.nw Dl (by rw [qq]; simp) with z | z
            · exact absurd z1 z
            · rw [z2] at z; cases z
        obtain ⟨f3, k3⟩ := fr (g3.up (c := c)) hID hDl
        have e3 : Ec K c I3 H3 (L2.wipe σ vs) (wipeD ρ vs) s3 := ((e.grow g1 w1).grow g13 w3).wipe vs
        refine hg _ _ _ _ _ _ _ _ _ e3 r3 hx _ fun σ4 e4 l4 n4 _ => ⟨wipe_wipe l4 n4 hj, ?_⟩
        refine ht _ _ _ _ _ _ _ _ e4 hb _ fun I5 H5 g5 w5 => ?_
        obtain ⟨f5, k5⟩ := fr g5 f3 k3
        have g15 := g13.tr w3 g5
        cases b with
        | false =>
          rw [if_neg Bool.false_ne_true]
          rw [if_neg (show ¬ (false, s4).1 = true from Bool.false_ne_true)] at hgo
          exact ⟨I5, acc, pre, rest, s4, g15, f5, w5, k5, (racc.mono g3.s1).mono g5.s1, by omega, hgo, hy⟩
        | true =>
          rw [if_pos rfl]
          rw [if_pos (show (true, s4).1 = true from rfl)] at hgo
          obtain ⟨⟨y, s6⟩, hye, hgo⟩ := bind_some_of hgo
          obtain ⟨⟨rest', s7⟩, hgo2, hr⟩ := map_some_of hgo
          cases hr
          refine he _ _ _ _ _ _ _ _ (e4.grow g5 w5) hye _ fun yv I6 H6 g6 w6 r6 => ?_
          obtain ⟨f6, k6⟩ := fr g6 f5 k5
          have g16 := g15.tr w5 g6
          refine ⟨acc, k6, ?_, I6, acc ++ [yv], pre ++ [y], rest', s6, ?_, f6, ?_, upd_same, (((racc.mono g3.s1).mono g5.s1).mono g6.s1).app (.one r6), by rw [List.length_append]; simp only [List.length_cons, List.length_nil]; omega, hgo2, by rw [List.append_assoc]; exact hy⟩
          · refine Nat.lt_of_le_of_lt (show acc.length ≤ 1000000 by omega) (by decide)
          · exact ⟨g16.s1, g16.s2.updH f6, g16.kp.updH hD, g16.nw⟩
          · intro r hr
            obtain ⟨z1, sc, z2, z3⟩ := w6 r hr
            have n : r ≠ Dl := fun z => cD (by rw [hr, z])
            exact ⟨z1, sc, by rw [upd_ne n]; exact z2, z3⟩
      · have ei : i = xs.length := by omega
        subst ei
        rw [List.drop_length] at hgo
        cases hgo
        rw [List.append_nil] at hy
        subst hy
        refine .inl ⟨y2, ?_⟩
        have sI : Sb I' (upd I' Dl (.lst acc)) := fun a o z => by rw [upd_ne (ne_of_none z hID)]; exact z
        refine q _ (upd I' Dl (.lst acc)) H' (g1.tr w1 ⟨g'.s1.trans sI, g'.s2.updI hID hDl, g'.kp, fun a z => ?_⟩) ?_ (.lst upd_same (racc.mono sI))
        · by_cases n : a = Dl
          · subst n; exact .inr hD
          · rw [upd_ne n] at z; exact g'.nw a z
        · intro r hr
          obtain ⟨z1, sc, z2, z3⟩ := w' r hr
          have n : r ≠ Dl := fun z => cD (by rw [hr, z])
          exact ⟨by rw [upd_ne n]; exact z1, sc, z2, sb_sqL sI z3⟩
  · cases h
theorem sn_lc {K : Kx} {wi : TI} {di : Da} {g : TG} {dg : Dg} {js vs : List Nat} {tt : TT} {bt : Dt} {te : TE} {de : Dn} (hi : SndI K wi di) (hg : SndG K g dg js) (hj : ∀ k ∈ js, k ∈ vs) (ht : SndT K tt bt) (he : SndE K te de) : SndE K (tLc wi g tt te vs) (dLc di dg bt de vs) := fun c I H σ ρ s d s' e h Q q =>
  lc_core hg hj ht he e (fun xs s1 h1 R r => hi _ _ _ _ _ _ _ _ e h1 R fun J I' H' g w y => r J I' H' g w fun I2 H2 a b _ => y I2 H2 a b) h Q q
end Dl
end
section
set_option Elab.async false
set_option linter.all false
set_option maxRecDepth 100000
set_option maxHeartbeats 4000000
namespace Dl
open PySem PySem.Spec PyProof.Rows L2 StX

/-! statements -/
section
variable {X : Cx} {st : Stmt} {sts : List Stmt} {t u : TS} {a b : Ds} {e : Expr} {te : TE} {da : Dn} {pos : Pos}
theorem ess_nil : ESs X [] tNext dNext := ⟨pss_nil, ss_next⟩
theorem ess_cons (h1 : ES X st t a) (h2 : ESs X sts u b) : ESs X (st :: sts) (tSeq t u) (dSeq a b) := ⟨pss_cons h1.p h2.p, ss_seq h1.s h2.s⟩
theorem ess_one (h1 : ES X st t a) : ESs X [st] t a := ⟨pss_one h1.p, h1.s⟩
theorem es_expr (he : EE X e te da) (hs : swapsWith e none pos.line X.env = pure false := by rfl) : ES X (.Expr e pos) (tDrop te) (dDrop da) := ⟨ps_expr he.p hs, ss_drop he.s⟩
theorem es_ret (he : EE X e te da) : ES X (.Return (some e) pos) (tRet te) (dRet da) := ⟨ps_ret he.p, ss_ret he.s⟩
theorem es_retN : ES X (.Return none pos) tRetN dRetN := ⟨ps_retN, ss_retN⟩
theorem es_if {c : Expr} {x y : List Stmt} {tc : TT} {bt : Dt} (hc : ET X c tc bt) (ha : ESs X x t a) (hb : ESs X y u b) : ES X (.If c x y pos) (tIfS tc t u) (dIfS bt a b) := ⟨ps_if hc.p ha.p hb.p, ss_if hc.s ha.s hb.s⟩
theorem es_never : ES X st tNever dNever := ⟨ps_never, ss_never⟩
theorem ess_never : ESs X sts tNever dNever := ⟨pss_never, ss_never⟩
theorem es_asg {tg : Expr} {g : TG} {dg : Dg} {js : List Nat} (he : EE X e te da) (hg : EG X tg g dg js) (hs : swapsWithSole [tg] e pos.line X.env = pure false := by rfl) (hw : swappedStores [tg] e X.env = pure none := by rfl) (h1 : (assignEach [tg] X.env).map (fun z => z.2) = [assign tg X.env] := by rfl) : ES X (.Assign [tg] e pos) (tAsg te g) (dAsg da dg) :=
  ⟨ps_asg he.p hg.p hs hw h1, ss_asg he.s hg.s⟩
theorem es_set {i : Nat} {x : Str} {pos' : Pos} (hN : X.N.Nodup) (hi : X.N[i]? = some x) (hx : Loc X.env.scope x) (he : EE X e te da) (hs : swapsWith e (some (.Name x pos')) pos.line X.env = pure false := by rfl) (hf : X.fn x = true ∨ X.env.scope.names.lookup x = some .local := by first | exact .inl rfl | exact .inr rfl) :
    ES X (.Assign [.Name x pos'] e pos) (tAsg te (gName i)) (dAsg da (gdName i)) := ⟨ps_set hN hi hx he.p hs hf, ss_asg he.s (sg_name i)⟩
theorem es_for {tg it : Expr} {body : List Stmt} {wi : TI} {di : Da} {g : TG} {dg : Dg} {js : List Nat} (hp : PassesOwn (model X.prog X.w) X.A X.env X.xe) (hc : X.calm = true) (hi : EI X tg it wi di) (hg : EG X tg g dg js) (hb : ESs X body t b) (hfs : ∀ x, foldedSetIterable it X.env x = pure x := by intro _; rfl) :
    ES X (.For tg it body [] pos) (tFor wi g t) (dFor di dg b) := ⟨ps_for hp hc hi.p hg.p hb.p hfs, ss_for hi.s hg.s hb.s⟩
/-- a, b = x, y by plain local names -/
def dPar (i j : Nat) (ax : Da) : Ds := fun ρ s => (ax ρ s).bind fun p => match p.1 with
  | [x, y] => some (.nx ((ρ.set i (.im x)).set j (.im y)), p.2)
  | _ => none
def dPar3 (i j l : Nat) (ax : Da) : Ds := fun ρ s => (ax ρ s).bind fun p => match p.1 with
  | [x, y, z] => some (.nx (((ρ.set i (.im x)).set j (.im y)).set l (.im z)), p.2)
  | _ => none
theorem EnvS.setI {K : Kx} {c : Option Addr} {I0 H0 I H : Hp} {σ : L2.St} {ρ : List Sl} {s : Tau} {v : V} {d : D} (e : EnvS K c I0 H0 I H σ ρ s) (r : Rep K c I v d) (i : Nat) : EnvS K c I0 H0 I H (σ.set i (some v)) (ρ.set i (.im d)) s :=
  ⟨e.env.setI r i, e.s0, e.kp, e.nw, fun j p d' h1 h2 => by
    by_cases z : i = j
    · subst z
      rw [List.getElem?_set] at h2
      simp only [if_true] at h2
      split at h2 <;> cases h2
    · rw [List.getElem?_set_ne z] at h1 h2
      exact e.fr j p d' h1 h2, e.nc⟩
theorem ss_par {K : Kx} {tx : TA} {ax : Da} (i j : Nat) (hx : SndA K tx ax) : SndS K (tPar i j tx) (dPar i j ax) := fun c I0 H0 I H σ ρ s o s' e h D q => by
  obtain ⟨⟨x, s1⟩, ha, h⟩ := bind_some_of h
  refine hx _ _ _ _ _ _ _ _ e.env ha _ fun v I1 H1 g1 w1 r1 => ?_
  split at h
  · rename_i p q1 q2 hq
    have hq : x = [q1, q2] := hq
    subst hq
    cases h
    cases r1 with
    | cons ra r => cases r with
      | cons rb r => cases r; exact ⟨_, _, rfl, q _ I1 H1 (((e.grow g1 w1).setI ra i).setI rb j)⟩
  · cases h
theorem ss_par3 {K : Kx} {tx : TA} {ax : Da} (i j l : Nat) (hx : SndA K tx ax) : SndS K (tPar3 i j l tx) (dPar3 i j l ax) := fun c I0 H0 I H σ ρ s o s' e h D q => by
  obtain ⟨⟨x, s1⟩, ha, h⟩ := bind_some_of h
  refine hx _ _ _ _ _ _ _ _ e.env ha _ fun v I1 H1 g1 w1 r1 => ?_
  split at h
  · rename_i p q1 q2 q3 hq
    have hq : x = [q1, q2, q3] := hq
    subst hq
    cases h
    cases r1 with
    | cons ra r => cases r with
      | cons rb r => cases r with
        | cons rc r => cases r; exact ⟨_, _, _, rfl, q _ I1 H1 ((((e.grow g1 w1).setI ra i).setI rb j).setI rc l)⟩
  · cases h
theorem es_par {i j : Nat} {x y : Str} {e1 e2 : Expr} {tx : TA} {ax : Da} {px py pt pt2 : Pos} {kt k2 : Nat} (hc : X.calm = true) (hN : X.N.Nodup) (hi : X.N[i]? = some x) (hj : X.N[j]? = some y) (hij : i ≠ j)
    (hx : X.env.scope.names.lookup x = some .local) (hy : X.env.scope.names.lookup y = some .local) (ha : EA X [e1, e2] tx ax)
    (hw : swappedStores [.Tuple [.Name x px, .Name y py] kt pt] (.Tuple [e1, e2] k2 pt2) X.env = pure (some [x, y]) := by rfl)
    (hs : swapsWithSole [.Tuple [.Name x px, .Name y py] kt pt] (.Tuple [e1, e2] k2 pt2) pos.line X.env = pure false := by rfl) :
    ES X (.Assign [.Tuple [.Name x px, .Name y py] kt pt] (.Tuple [e1, e2] k2 pt2) pos) (tPar i j tx) (dPar i j ax) := ⟨ps_par hc hN hi hj hij hx hy ha.p hw hs, ss_par i j ha.s⟩
end

/-! a comprehension in its def -/
section
variable {X : Cx}
structure EGb (X : Cx) (scope : Scope) (e : Expr) (g : TG) (dg : Dg) (js : List Nat) : Prop where
  p : ∀ (s : Shared) (H : Hp) (C : Addr) (cl : List (Str × Addr)) (fp : List Addr), PG (X.blk s H scope (compEnvC scope cl C X.env) fp) e g
  s : SndG X.kx g dg js
structure ETb (X : Cx) (scope : Scope) (ifs : List Expr) (tt : TT) (bt : Dt) : Prop where
  p : ∀ (s : Shared) (H : Hp) (C : Addr) (cl : List (Str × Addr)) (fp : List Addr), PTs (X.blk s H scope (compEnvC scope cl C X.env) fp) ifs tt
  s : SndT X.kx tt bt
structure EEb (X : Cx) (scope : Scope) (e : Expr) (te : TE) (de : Dn) : Prop where
  p : ∀ (s : Shared) (H : Hp) (C : Addr) (cl : List (Str × Addr)) (fp : List Addr), PE (X.blk s H scope (compEnvC scope cl C X.env) fp) e te
  s : SndE X.kx te de
theorem egb_mk {scope : Scope} {e : Expr} {g : Shared → Hp → Addr → List (Str × Addr) → List Addr → TG} {dg : Dg} {js : List Nat} (h : ∀ (s : Shared) (H : Hp) (C : Addr) (cl : List (Str × Addr)) (fp : List Addr), EG (X.blk s H scope (compEnvC scope cl C X.env) fp) e (g s H C cl fp) dg js) (hg : ∀ (s : Shared) (H : Hp) (C : Addr) (cl : List (Str × Addr)) (fp : List Addr), g s H C cl fp = g X.s_0 (fun _ => none) 0 [] [] := by intros; rfl) : EGb X scope e (g X.s_0 (fun _ => none) 0 [] []) dg js :=
  ⟨fun s H C cl fp => hg s H C cl fp ▸ (h s H C cl fp).p, (h X.s_0 (fun _ => none) 0 [] []).s⟩
theorem etb_one {scope : Scope} {e : Expr} {tt : Shared → Hp → Addr → List (Str × Addr) → List Addr → TT} {bt : Dt} (h : ∀ (s : Shared) (H : Hp) (C : Addr) (cl : List (Str × Addr)) (fp : List Addr), ET (X.blk s H scope (compEnvC scope cl C X.env) fp) e (tt s H C cl fp) bt) (hg : ∀ (s : Shared) (H : Hp) (C : Addr) (cl : List (Str × Addr)) (fp : List Addr), tt s H C cl fp = tt X.s_0 (fun _ => none) 0 [] [] := by intros; rfl) : ETb X scope [e] (tt X.s_0 (fun _ => none) 0 [] []) bt :=
  ⟨fun s H C cl fp => hg s H C cl fp ▸ pts_one (h s H C cl fp).p, (h X.s_0 (fun _ => none) 0 [] []).s⟩
theorem etb_nil {scope : Scope} : ETb X scope [] tYes dYes := ⟨fun _ _ _ _ _ => pts_nil, sn_yes⟩
theorem eeb_mk {scope : Scope} {e : Expr} {te : Shared → Hp → Addr → List (Str × Addr) → List Addr → TE} {de : Dn} (h : ∀ (s : Shared) (H : Hp) (C : Addr) (cl : List (Str × Addr)) (fp : List Addr), EE (X.blk s H scope (compEnvC scope cl C X.env) fp) e (te s H C cl fp) de) (hg : ∀ (s : Shared) (H : Hp) (C : Addr) (cl : List (Str × Addr)) (fp : List Addr), te s H C cl fp = te X.s_0 (fun _ => none) 0 [] [] := by intros; rfl) : EEb X scope e (te X.s_0 (fun _ => none) 0 [] []) de :=
  ⟨fun s H C cl fp => hg s H C cl fp ▸ (h s H C cl fp).p, (h X.s_0 (fun _ => none) 0 [] []).s⟩
theorem ee_lc {elt tg iter : Expr} {ifs : List Expr} {scope : Scope} {own : List (Str × Nat)} {pos : Pos} {wi : TI} {di : Da} {g : TG} {dg : Dg} {js : List Nat} {tt : TT} {bt : Dt} {te : TE} {de : Dn} (hc : X.calm = true) (hN : X.N.Nodup) (hi : EI X tg iter wi di)
    (ok : blkC X.N X.env.scope scope own = true) (hg : EGb X scope tg g dg js) (ht : ETb X scope ifs tt bt) (he : EEb X scope elt te de) (hj : ∀ k ∈ js, k ∈ own.map (fun z => z.2) := by decide) (hs : ∀ x, foldedSetIterable iter X.env x = pure x := by intro _; rfl) :
    EE X (.ListComp elt [⟨tg, iter, ifs, 0⟩] scope pos) (tLc wi g tt te (own.map (fun z => z.2))) (dLc di dg bt de (own.map (fun z => z.2))) :=
  ⟨pe_lc hc hN hi.p (blkOk_by ok) hg.p ht.p he.p hs, sn_lc hi.s hg.s hj ht.s he.s⟩
/-- name = [..] on one line -/
theorem es_lc {i : Nat} {y : Str} {py : Pos} {elt tg iter : Expr} {ifs : List Expr} {scope : Scope} {own : List (Str × Nat)} {pos spos : Pos} {wi : TI} {di : Da} {g : TG} {dg : Dg} {js : List Nat} {tt : TT} {bt : Dt} {te : TE} {de : Dn} (hc : X.calm = true) (hN : X.N.Nodup) (hy : X.N[i]? = some y) (hyl : X.env.scope.names.lookup y = some .local)
    (hsw : swapsWith (.ListComp elt [⟨tg, iter, ifs, 0⟩] scope pos) (some (.Name y py)) spos.line X.env = pure true) (hi : EI X tg iter wi di)
    (ok : blkC X.N X.env.scope scope own = true) (hg : EGb X scope tg g dg js) (ht : ETb X scope ifs tt bt) (he : EEb X scope elt te de) (hj : ∀ k ∈ js, k ∈ own.map (fun z => z.2) := by decide) (hs : ∀ x, foldedSetIterable iter X.env x = pure x := by intro _; rfl) :
    ES X (.Assign [.Name y py] (.ListComp elt [⟨tg, iter, ifs, 0⟩] scope pos) spos) (tAsg (tLc wi g tt te (own.map (fun z => z.2))) (gName i)) (dAsg (dLc di dg bt de (own.map (fun z => z.2))) (gdName i)) :=
  ⟨ps_setLc hc hN hy hyl hsw hi.p (blkOk_by ok) hg.p ht.p he.p hs, ss_asg (sn_lc hi.s hg.s hj ht.s he.s) (sg_name i)⟩
end

/-! the draws -/
def dRw (i : Nat) (j : Nat) : Dn := fun ρ s => match ρ[i]? with
  | some (.im .rw) => (match j with
    | 0 => some (.sl s.ns, s)
    | 1 => some (.int s.a, s)
    | 2 => some (.int s.b, s)
    | 3 => some (.int s.c, s)
    | _ => none)
  | _ => none
def Tau.put (s : Tau) (j : Nat) (v : Int) : Option Tau := match j with
  | 1 => some { s with a := v }
  | 2 => some { s with b := v }
  | 3 => some { s with c := v }
  | _ => none
def dRwSet (i j : Nat) (da : Dn) : Ds := fun ρ s => (da ρ s).bind fun p => match p.1, ρ[i]? with
  | .int v, some (.im .rw) => (p.2.put j v).map fun s' => (.nx ρ, s')
  | _, _ => none
section
variable {K : Kx} {te : TE} {da : Dn}
theorem rw_at {c : Option Addr} {I H : Hp} {σ : L2.St} {ρ : List Sl} {s : Tau} {i : Nat} (e : Ec K c I H σ ρ s) (h : ρ[i]? = some (.im .rw)) : ∃ r sc, c = some r ∧ σ[i]? = some (some (V.ref r)) ∧ I r = none ∧ H r = some (.lst [.ref sc, .int s.a, .int s.b, .int s.c]) ∧ SqL K I sc (s.ns.map V.int) := by
  obtain ⟨v, h1, r1⟩ := e.imm h
  cases r1 with
  | rw hc =>
    obtain ⟨z1, sc, z2, z3⟩ := e.w _ hc
    exact ⟨_, sc, hc, h1, z1, z2, z3⟩
theorem sn_rw (i j : Nat) : SndE K (tOp (rIx K) (tVar i) (tC (.int (j : Nat)))) (dRw i j) := fun c I H σ ρ s d s' e h Q q => by
  unfold dRw at h
  split at h
  · rename_i hi
    obtain ⟨r, sc, hc, h1, hI, hH, hS⟩ := rw_at e hi
    refine ⟨_, h1, .inl ⟨r, [.ref sc, .int s.a, .int s.b, .int s.c], (j : Nat), ?_⟩⟩
    match j, h with
    | 0, h => cases h; exact ⟨_, rfl, rfl, .of hH, rfl, q _ I H (.refl e.sub) e.w (.sl hS)⟩
    | 1, h => cases h; exact ⟨_, rfl, rfl, .of hH, rfl, q _ I H (.refl e.sub) e.w (.int _)⟩
    | 2, h => cases h; exact ⟨_, rfl, rfl, .of hH, rfl, q _ I H (.refl e.sub) e.w (.int _)⟩
    | 3, h => cases h; exact ⟨_, rfl, rfl, .of hH, rfl, q _ I H (.refl e.sub) e.w (.int _)⟩
    | j + 4, h => cases h
  · cases h
theorem ss_rw (i j : Nat) (h1 : SndE K te da) : SndS K (tAsg te (gSub (tVar i) (tC (.int (j : Nat))) rSetL)) (dRwSet i j da) := fun c I0 H0 I H σ ρ s o s' e h D q => by
  obtain ⟨⟨x, s1⟩, ha, h⟩ := bind_some_of h
  refine h1 _ _ _ _ _ _ _ _ e.env ha _ fun v I1 H1 g1 w1 r1 => ?_
  split at h
  · rename_i k hk hi
    obtain ⟨s2, hp, h⟩ := map_some_of h
    cases h
    have hk : x = .int k := hk
    subst hk
    have e1 := e.grow g1 w1
    obtain ⟨r, sc, hc, hr, hI, hH, hS⟩ := rw_at e1.env hi
    cases r1
    have fin : ∀ zs, zs = [V.ref sc, .int s'.a, .int s'.b, .int s'.c] → s'.ns = s1.ns → D.nx σ (upd H1 r (.lst zs)) := fun zs hz hns => by
      subst hz
      refine q σ I1 _ (e1.grow ⟨.refl _, g1.s2.updH hI, fun a o n z => .inl ?_, fun a z => .inl z⟩ fun r' hr' => ?_)
      · rw [upd_ne (fun z => n (by rw [hc, z]))]; exact z
      · rw [hc] at hr'
        cases hr'
        exact ⟨hI, sc, upd_same, by rw [hns]; exact hS⟩
    refine ⟨_, hr, r, _, (j : Nat), j, rfl, rfl, hH, ?_⟩
    match j, hp with
    | 1, hp => cases hp; exact ⟨rfl, fin _ rfl rfl⟩
    | 2, hp => cases hp; exact ⟨rfl, fin _ rfl rfl⟩
    | 3, hp => cases hp; exact ⟨rfl, fin _ rfl rfl⟩
  · cases h
end
section
variable {X : Cx} {te : TE} {da : Dn} {x : Str} {e : Expr} {p p2 p3 pos : Pos} {i j k : Nat}
theorem ee_rw (hN : X.N[i]? = some x := by rfl) (hv : Vis X.env.scope x := by first | exact Or.inl rfl | exact Or.inr (Or.inl rfl) | exact Or.inr (Or.inr rfl)) (hd : (x == ("__debug__" : Str)) = false := by decide) (hcd : (x == ("__classdict__" : Str)) = false := by decide) :
    EE X (.Subscript (.Name x p) (.Constant (.int (j : Nat)) k p2) pos) (tOp (rIx X.kx) (tVar i) (tC (.int (j : Nat)))) (dRw i j) := ⟨pe_ix ix_seq (pe_var hN hv hd hcd) pe_int (fun _ _ => rfl), sn_rw i j⟩
theorem es_rw (he : EE X e te da) (hN : X.N[i]? = some x := by rfl) (hv : Vis X.env.scope x := by first | exact Or.inl rfl | exact Or.inr (Or.inl rfl) | exact Or.inr (Or.inr rfl)) (hd : (x == ("__debug__" : Str)) = false := by decide) (hcd : (x == ("__classdict__" : Str)) = false := by decide)
    (hs : swapsWithSole [.Subscript (.Name x p) (.Constant (.int (j : Nat)) k p2) p3] e pos.line X.env = pure false := by rfl) (hw : swappedStores [.Subscript (.Name x p) (.Constant (.int (j : Nat)) k p2) p3] e X.env = pure none := by rfl)
    (h1 : (assignEach [.Subscript (.Name x p) (.Constant (.int (j : Nat)) k p2) p3] X.env).map (fun z => z.2) = [assign (.Subscript (.Name x p) (.Constant (.int (j : Nat)) k p2) p3) X.env] := by rfl) :
    ES X (.Assign [.Subscript (.Name x p) (.Constant (.int (j : Nat)) k p2) p3] e pos) (tAsg te (gSub (tVar i) (tC (.int (j : Nat))) rSetL)) (dRwSet i j da) :=
  ⟨ps_asg he.p (pg_sub (pe_var hN hv hd hcd) pe_int set_list) hs hw h1, ss_rw i j he.s⟩
end

/-! defs -/
abbrev Fn := List D → Tau → Option ((D × Bool) × Tau)
def ResOk (K : Kx) (c : Option Addr) (I' H' H : Hp) (v : V) (d : D) : Bool → Prop
  | false => Rep K c I' v d
  | true => ∃ p, v = .ref p ∧ OwOk K c I' H' p d ∧ H p = none
def spG (K : Kx) (n : Nat) (f : Fn) : Sp := fun vs H Q _ => vs.length = n ∧ ∃ c I ds s d o s', RepL K c I vs ds ∧ Sub I H ∧ DW K c s I H ∧ f ds s = some ((d, o), s') ∧
  ∀ v I' H', Gr c I H I' H' → DW K c s' I' H' → ResOk K c I' H' H v d o → Q v H'
def fnD (m : Nat) (dn : Ds) : Fn := fun ds s => (dn (ds.map Sl.im ++ List.replicate (m - ds.length) .un) s).bind fun p => match p.1 with
  | .rt d o => some ((d, o), p.2)
  | .nx _ => some ((.non, false), p.2)
  | _ => none
def dCall (f : Fn) (ax : Da) : Dn := fun ρ s => (ax ρ s).bind fun p => (f p.1 p.2).map fun r => (r.1.1, r.2)
theorem OwOk.freeze {K : Kx} {c : Option Addr} {I H : Hp} {p : Addr} {d : D} (h : OwOk K c I H p d) (s : Sub I H) : ∃ o, I p = none ∧ c ≠ some p ∧ H p = some o ∧ Sub (upd I p o) H ∧ Sb I (upd I p o) ∧ Rep K c (upd I p o) (.ref p) d := by
  cases h with
  | @lst vs ds h1 h2 h3 h4 =>
    have sb : Sb I (upd I p (.lst vs)) := fun a o z => by rw [upd_ne (ne_of_none z h3)]; exact z
    exact ⟨_, h3, h4, h1, s.updI h3 h1, sb, .lst upd_same (h2.mono sb)⟩
  | @dS vs ds h1 h2 h3 h4 =>
    have sb : Sb I (upd I p (.dK vs)) := fun a o z => by rw [upd_ne (ne_of_none z h3)]; exact z
    exact ⟨_, h3, h4, h1, s.updI h3 h1, sb, .dS upd_same (h2.mono sb)⟩
  | @dsk C dx vw vr va w r a h1 r1 r2 r3 h3 h4 =>
    have sb : Sb I (upd I p (.ins C dx [("_way", vw), ("_row", vr), ("_answer", va)])) := fun a o z => by rw [upd_ne (ne_of_none z h3)]; exact z
    exact ⟨_, h3, h4, h1, s.updI h3 h1, sb, .dsk upd_same (r1.mono sb) (r2.mono sb) (r3.mono sb)⟩
theorem DW.more {K : Kx} {c : Option Addr} {s : Tau} {I H : Hp} {p : Addr} {o : HO} (w : DW K c s I H) (hc : c ≠ some p) (hI : I p = none) : DW K c s (upd I p o) H := fun r hr => by
  obtain ⟨z1, sc, z2, z3⟩ := w r hr
  have n : r ≠ p := fun z => hc (by rw [hr, z])
  exact ⟨by rw [upd_ne n]; exact z1, sc, z2, sb_sqL (fun a o z => by rw [upd_ne (ne_of_none z hI)]; exact z) z3⟩
theorem sn_call {K : Kx} {n : Nat} {f : Fn} {tx : TA} {ax : Da} (hx : SndA K tx ax) (hl : ∀ ρ s ds s', ax ρ s = some (ds, s') → ds.length = n) : SndE K (tCall (spG K n f) [] E0 tx) (dCall f ax) := fun c I H σ ρ s d s' e h Q q => by
  obtain ⟨⟨ds, s1⟩, h1, h⟩ := bind_some_of h
  obtain ⟨⟨⟨d1, o⟩, s2⟩, h2, h⟩ := map_some_of h
  cases h
  refine hx _ _ _ _ _ _ _ _ e h1 _ fun vs I1 H1 g1 w1 r1 => ?_
  show spG K n f (vs ++ []) H1 Q E0
  rw [List.append_nil]
  refine ⟨r1.length.trans (hl _ _ _ _ h1), c, I1, ds, s1, d1, o, s2, r1, g1.s2, w1, h2, fun v I' H' g w r => ?_⟩
  cases o with
  | false => exact q v I' H' (g1.tr w1 g) w r
  | true =>
    obtain ⟨p, rfl, hp, hn⟩ := r
    obtain ⟨u, hI, hc, hH, hs, sb, rp⟩ := hp.freeze g.s2
    refine q _ (upd I' p u) H' (g1.tr w1 ⟨g.s1.trans sb, hs, g.kp, fun a z => ?_⟩) (w.more hc hI) rp
    by_cases n : a = p
    · subst n; exact .inr hn
    · rw [upd_ne n] at z; exact g.nw a z
theorem len_nil : ∀ ρ s ds s', dNil ρ s = some (ds, s') → ds.length = 0 := fun ρ s ds s' h => by cases h; rfl
theorem len_cons {da : Dn} {ax : Da} {n : Nat} (h : ∀ ρ s ds s', ax ρ s = some (ds, s') → ds.length = n) : ∀ ρ s ds s', dCons da ax ρ s = some (ds, s') → ds.length = n + 1 := fun ρ s ds s' h1 => by
  obtain ⟨⟨x, s1⟩, _, h1⟩ := bind_some_of h1
  obtain ⟨⟨xs, s2⟩, h2, h1⟩ := map_some_of h1
  cases h1
  exact congrArg Nat.succ (h _ _ _ _ h2)
section
variable {X : Cx} {k : Nat} {f : Addr} {fd : FuncData} {ps : List Str} {fn : Fn} {x : Str} {e : Expr} {es : List Expr} {tx : TA} {ax : Da} {p pos : Pos} {n : Nat}
/-- a def that is called: all that is asked of it -/
structure Cd (P : Program) (w : World) (K : PySem.W.Frag) (mg : Str → Option Value) (base : Heap) (k : Nat) (x : Str) (n : Nat) (fn : Fn) : Prop where
  h : ∃ (f : Addr) (fd : FuncData) (ps : List Str), ps.length = n ∧ FnOk P w K mg base CX0 k f fd ps (spG ⟨K, P, w⟩ n fn) ∧ mg x = some (.ref f) ∧ PySem.W.keepIn K (.ref f) = true ∧ Binds K fd ps []
theorem ee_call {j : Nat} (F : Cd X.prog X.w X.K X.mg X.base k x n fn) (hr : Room j X.A) (hk : k ≤ j) (hg : Gl X x) (ha : EA X (e :: es) tx ax) (hl : ∀ ρ s ds s', ax ρ s = some (ds, s') → ds.length = n) (hdb : (x == ("__debug__" : Str)) = false := by decide)
    (he : starEach (e :: es) X.env = (false, eval e X.env) :: starEach es X.env := by rfl) (hpl : (backTo pos (starEach es X.env)).any (fun z => z.1) = false := by rfl) : EE X (.Call (.Name x p) (e :: es) [] pos) (tCall (spG X.kx n fn) [] E0 tx) (dCall fn ax) := by
  obtain ⟨f, fd, ps, hn, G, gm, kp, b⟩ := F.h
  exact ⟨pe_call G (hr.mono hk) hg gm kp b .nil pass0 ha.p hdb he hpl, sn_call ha.s hl⟩
theorem ee_call0 {j : Nat} (F : Cd X.prog X.w X.K X.mg X.base k x 0 fn) (hr : Room j X.A) (hk : k ≤ j) (hg : Gl X x) (hdb : (x == ("__debug__" : Str)) = false := by decide) : EE X (.Call (.Name x p) [] [] pos) (tCall (spG X.kx 0 fn) [] E0 tNil) (dCall fn dNil) := by
  obtain ⟨f, fd, ps, hn, G, gm, kp, b⟩ := F.h
  exact ⟨pe_call0 G (hr.mono hk) hg gm kp b .nil pass0 hdb, sn_call sn_nil len_nil⟩
end
section
variable {P : Program} {w : World} {K : PySem.W.Frag} {mg : Str → Option Value} {base : Heap} {x qual : Str} {params : Arguments} {body : List Stmt} {scope : Scope} {f : Addr} {fd : FuncData}
theorem slL_start {K2 : Kx} {c : Option Addr} {I H : Hp} : ∀ {vs : List V} {ds : List D} (m : Nat), RepL K2 c I vs ds → SlL K2 c I H (vs.map some ++ List.replicate m none) (ds.map Sl.im ++ List.replicate m .un)
  | _, _, 0, .nil => .nil
  | _, _, m + 1, .nil => .cons (.un _) (slL_start m .nil)
  | _, _, m, .cons a r => .cons (.im a) (slL_start m r)
theorem start_im {ds : List D} {m i : Nat} {d : D} (h : (ds.map Sl.im ++ List.replicate m Sl.un)[i]? = some (Sl.ow d)) : False := by
  rcases List.mem_append.mp (List.mem_of_getElem? h) with z | z
  · obtain ⟨_, _, q⟩ := List.mem_map.mp z
    cases q
  · cases (List.eq_of_mem_replicate z)
/-- THE RULE for a def: from its body -/
theorem fn_ok {N ps : List Str} {k : Nat} {dn : Ds} (F : FunD K x qual params body scope [] [] f fd) (S : FnScope N ps scope)
    (hb : ∀ (cdv : Value) (A : Around) (outer : List PySem.Env) (s : Shared) (H : Hp) (E : XK), Room k (A.deeper (envOfC qual scope s.heap.objs.size f cdv)) → ∃ t, ESs (cxOf CX0 P w K mg base N qual scope f cdv A outer s H E).nox body t dn) :
    FnOk P w K mg base CX0 (k + 1) f fd ps (spG ⟨K, P, w⟩ ps.length (fnD N.length dn)) := by
  refine F.ok S (fun vs H Q E h => h.1) (fun cdv A outer s H vs Q E hr h => ?_)
  obtain ⟨t, ht⟩ := hb cdv A outer s H E hr
  refine ⟨t, ht.p.nox, ?_⟩
  obtain ⟨hn, c, I, ds, s0, d, o, s1, r, sb, w0, hf, q⟩ := h
  obtain ⟨⟨out, s2⟩, h1, h2⟩ := bind_some_of hf
  have hl := r.length
  have e0 : EnvS ⟨K, P, w⟩ c I H I H (L2.start N vs) (ds.map Sl.im ++ List.replicate (N.length - ds.length) .un) s0 := by
    have sl : SlL ⟨K, P, w⟩ c I H (L2.start N vs) (ds.map Sl.im ++ List.replicate (N.length - ds.length) .un) := by
      unfold L2.start
      rw [hl]
      exact slL_start _ r
    exact ⟨⟨sb, w0, sl, fun i j p d e _ _ _ h3 _ => (start_im h3).elim⟩, .refl _, .refl _ _, fun a z => .inl z, fun i p d _ h => (start_im h).elim, fun r hr z => by
      obtain ⟨_, sc, z2, _⟩ := w0 r hr
      rw [z] at z2; cases z2⟩
  refine ht.s _ _ _ _ _ _ _ _ _ _ e0 h1 _ ?_
  cases out with
  | nx ρ' =>
    cases h2
    exact fun σ' I' H' e' => q .non I' H' e'.gr e'.env.w .non
  | rt d' k' =>
    have h3 : d' = d ∧ k' = o ∧ s2 = s1 := by cases h2; exact ⟨rfl, rfl, rfl⟩
    obtain ⟨rfl, rfl, rfl⟩ := h3
    cases k' with
    | false => exact fun v I' H' g w r => q v I' H' g w r
    | true => exact fun p I' H' g w r hp => q _ I' H' g w ⟨p, rfl, r, hp⟩
  | bk ρ' => cases h2
  | ct ρ' => cases h2
/-- the law: its first row makes the draws' list -/
def spLaw (K : PySem.W.Frag) : Sp := fun vs H Q _ => ∃ (a : Addr) (ns : List Int), vs = [.ref a] ∧ SqL K H a (ns.map V.int) ∧ ns.length ≤ 63 ∧ ∀ H', Q (.bl true) H'
theorem law_ok {N : List Str} {k i : Nat} {b0 : Int} {x0 : Str} {dn : Ds} {st0 : Stmt} {rest : List Stmt} (F : FunD K x qual params body scope [] [] f fd) (S : FnScope N [x0] scope) (hbody : body = st0 :: rest)
    (hb : ∀ (cdv : Value) (A : Around) (outer : List PySem.Env) (s : Shared) (H : Hp) (E : XK), Room k (A.deeper (envOfC qual scope s.heap.objs.size f cdv)) →
      PS (cxOf CX0 P w K mg base N qual scope f cdv A outer s H E).nox st0 (tAsg (tLst (tCons (tVar 0) (tCons (tC (.int 0)) (tCons (tC (.int b0)) (tCons (tC (.int 0)) tNil))))) (gName i)) ∧ ∃ t, ESs (cxOf CX0 P w K mg base N qual scope f cdv A outer s H E).nox rest t dn)
    (hd : ∀ ns : List Int, ns.length ≤ 63 → ∃ s', dn ((Sl.im (.sl ns) :: List.replicate (N.length - 1) .un).set i (.im .rw)) ⟨0, b0, 0, ns⟩ = some (.rt (.bl true) false, s')) : FnOk P w K mg base CX0 (k + 1) f fd [x0] (spLaw K) := by
  subst hbody
  refine F.ok S (fun vs H Q E h => ?_) (fun cdv A outer s H vs Q E hr h => ?_)
  · obtain ⟨a, ns, rfl, _⟩ := h; rfl
  obtain ⟨h0, t, ht⟩ := hb cdv A outer s H E hr
  have hs := ht.s
  refine ⟨_, (pss_cons h0 ht.p).nox, ?_⟩
  obtain ⟨a, ns, rfl, hS, hlen, q⟩ := h
  obtain ⟨s', hd⟩ := hd ns hlen
  refine ⟨_, rfl, by show 4 ≤ sizeLine; decide, fun p hp => ?_⟩
  -- what is known at the start: the script alone
  let I : Hp := fun z => if z = a then H a else none
  have hIa : I a = H a := if_pos rfl
  have nap : a ≠ p ∨ H a = none := by
    by_cases z : a = p
    · subst z; exact .inr hp
    · exact .inl z
  have hIp : I p = none := by
    by_cases z : p = a
    · subst z; show (if p = p then H p else none) = none; rw [if_pos rfl]; exact hp
    · exact if_neg z
  have hSI : SqL K I a (ns.map V.int) := by
    rcases hS with (h | ⟨o, h⟩) | h
    · exact .inl (.inl (hIa.trans h))
    · exact .inl (.inr ⟨o, hIa.trans h⟩)
    · exact .inr h
  have sb : Sub I (upd H p (.lst [.ref a, .int 0, .int b0, .int 0])) := fun z o hz => by
    by_cases h : z = a
    · subst h
      rw [hIa] at hz
      rw [upd_ne (ne_of_none hz hp)]
      exact .inl hz
    · have : I z = none := if_neg h
      rw [this] at hz; cases hz
  have w0 : DW ⟨K, P, w⟩ (some p) ⟨0, b0, 0, ns⟩ I (upd H p (.lst [.ref a, .int 0, .int b0, .int 0])) := fun r hr => by
    cases hr
    exact ⟨hIp, a, upd_same, hSI⟩
  have hst : L2.start N [V.ref a] = some (.ref a) :: List.replicate (N.length - 1) none := rfl
  have e0 : Ec ⟨K, P, w⟩ (some p) I (upd H p (.lst [.ref a, .int 0, .int b0, .int 0])) (L2.start N [V.ref a]) (Sl.im (.sl ns) :: List.replicate (N.length - 1) .un) ⟨0, b0, 0, ns⟩ := by
    refine ⟨sb, w0, ?_, fun i j p d e _ _ _ h3 _ => start_im (ds := [.sl ns]) h3⟩
    rw [hst]
    exact slL_start (vs := [.ref a]) (ds := [.sl ns]) _ (.cons (.sl hSI) .nil)
  have e1 := e0.setI (v := .ref p) (d := .rw) (.rw rfl) i
  refine hs _ I (upd H p (.lst [.ref a, .int 0, .int b0, .int 0])) I _ _ _ _ _ _ ⟨e1, .refl _, .refl _ _, fun a z => .inl z, fun j p d _ h => ?_, fun r hr => by cases hr; rw [upd_same]; simp⟩ hd _ ?_
  · by_cases z : i = j
    · subst z
      rw [List.getElem?_set] at h
      simp only [if_true] at h
      split at h <;> cases h
    · rw [List.getElem?_set_ne z] at h
      exact (start_im (ds := [.sl ns]) h).elim
  · intro v I' H' g w' r
    cases r
    exact q H'
end
end Dl
end
section
set_option Elab.async false
set_option linter.all false
set_option maxRecDepth 100000
set_option maxHeartbeats 4000000
namespace Dl
open PySem PySem.Spec PyProof.Rows L2 StX

/-! enumerate(t), t a tuple -/
theorem meets_enumB {v : Value} {o : Obj} {H : Heap → Prop} (B : Begins v o H) :
    Meets (Builtin.«enumerate.__new__» ⟨[.type "enumerate", v], []⟩) (fun _ R s => H s.heap ∧
      R (.ok (.ret (.ref (s.heap.push o).objs.size))) { s with heap := (s.heap.push o).push { cls := .type "enumerate", data := .fields #[.none, .bool false, .ref s.heap.objs.size, rawInt 0, .none, .none] } }) :=
  .of_wp fun prog w A R s z => by
    obtain ⟨hp, g, d, tk, os⟩ := s
    obtain ⟨hH, hR⟩ := z
    have hs := sub_enumerate
    wp_walk
    refine wpAny_stack_any fun st => wpAny_pure ?_
    split
    · rename_i c _ _ _ _ _
      cases (c == Value.type "enumerate") <;> (wp_walk using (B.iter _ _ _ _ _ _ hH); exact ⟨_, rfl, hR⟩)
    · wp_walk using (B.iter _ _ _ _ _ _ hH)
      exact ⟨_, rfl, hR⟩
theorem call_enumB {prog : Program} {w : World} {A : Around} {E : Value → Shared → Prop} {s : Shared} {v : Value} {o : Obj} {H : Heap → Prop} {Q : Value → Shared → Prop} (B : Begins v o H) (h1 : H s.heap)
    (h : ∀ h', IsEnum h' (s.heap.objs.size + 1) s.heap.objs.size 0 .none → h'.get? s.heap.objs.size = some o → (∀ b u, s.heap.get? b = some u → h'.get? b = some u) → Q (.ref (s.heap.objs.size + 1)) { s with heap := h' }) :
    wpAny (model prog w) A (call (.type "enumerate") [v]) Q E s := by
  refine callType_new F.called_enumerate (by decide) (F.typeCall_enumerate_1 _) (F.newCall_enumerate_1 _) (fun obj => F.args_object_init_2 obj _) F.entry_enumerate_new (meets_enumB B) ⟨h1, ?_⟩
  have hz : (s.heap.push o).objs.size = s.heap.objs.size + 1 := Heap.size_push ..
  show _ ∧ _
  rw [hz]
  have he := Heap.get?_push_size (s.heap.push o) (o := { cls := .type "enumerate", data := .fields #[.none, .bool false, .ref s.heap.objs.size, rawInt 0, .none, .none] }) rfl
  rw [hz] at he
  exact ⟨⟨_, he, rfl⟩, h _ he (Heap.get?_push_of_some _ (Heap.get?_push_size _ B.free)) fun b u x => Heap.get?_push_of_some _ (Heap.get?_push_of_some _ x)⟩
def IteT (K : PySem.W.Frag) (a : Addr) : It :=
  ⟨fun i H => ∃ (xs : List V) (x : V), SqT K H a xs ∧ xs[i]? = some x, fun i H v H' => ∃ T x, v = .ref T ∧ H T = none ∧ H' = upd H T (.tup [.int (i : Nat), x]) ∧ ∀ xs, SqT K H a xs → xs[i]? = some x, fun i H => ∃ xs : List V, SqT K H a xs ∧ xs.length = i⟩
theorem turn_enumT {P : Program} {w : World} {K : PySem.W.Frag} {elts : List Expr} {kk : Nat} {tpos : Pos} (a e it : Addr) :
    Turn P w K (.Tuple elts kk tpos) (IteT K a) [e, it] e (fun i h => (∃ old, IsEnum h e it ((i : Nat) : Int) old) ∧ h.IsTupleIter it a i ∧ e ≠ it) where
  mem := by simp
  obj := fun i h st b hb => by
    obtain ⟨⟨old, he⟩, ⟨o, ho, hc, hd⟩, _⟩ := st
    rcases (by simpa using hb : b = e ∨ b = it) with z | z
    · rw [z]; exact ⟨_, he, fun v q => nomatch q⟩
    · exact ⟨o, by rw [z]; exact ho, fun v q => by rw [hd] at q; cases q⟩
  keep := fun i h h' st k => ⟨⟨_, k e (by simp) _ st.1.choose_spec⟩, st.2.1.at fun o q => k it (by simp) o q, st.2.2⟩
  item := by
    intro X hP hw hK hc i pins s σ H E I hf st hg
    subst hP hw hK
    obtain ⟨⟨old, he⟩, hit, hne⟩ := st
    obtain ⟨xs, x, hq, hx⟩ := hg
    obtain ⟨its, rv, p, hz⟩ := I.tuple hq
    obtain ⟨u, hu, ru⟩ := rv.get hx
    have hel : e < s.heap.objs.size := Heap.lt_size he
    obtain ⟨oi, hoi, hci, hdi⟩ := id hit
    have hil : it < s.heap.objs.size := Heap.lt_size hoi
    obtain ⟨oa, hoa, hca, _⟩ := id p
    have nai : a ≠ it := fun z => by
      rw [z, hoi] at hoa
      cases hoa
      exact absurd (Value.type.inj (hci.symm.trans hca)) (by decide)
    have nae : e ≠ a := fun z => by
      have he2 := he
      unfold IsEnum at he2
      rw [z, hoa] at he2
      cases he2
      exact absurd (Value.type.inj hca) (by decide)
    have D : Draws X.prog X.w X.A.in1 it [it, a] its.toArray.size _ _ := Draws.tuple (A := X.A.in1) (show X.A.in1.handled = none from I.ok.hd hc) it a nai its.toArray
    have hlt : i < its.toArray.size := by
      have := (List.getElem?_eq_some_iff.mp hu).1
      simpa using this
    refine wpAny_pyNext_enum_itemD D he ⟨hit, p⟩ hlt hne (by simp [hne, nae]) fun y h' tk hy ho hst' hT hsz hk => ?_
    have hy' : y = u := by
      have : its.toArray[i]? = some u := by simpa using hu
      exact Option.some.inj (hy.symm.trans this)
    subst hy'
    refine ⟨_, rfl, wpAny_letOwnedTupleGo_enum (s := { s with heap := h', toks := tk + 1 }) ho fun h'' he' sb => ?_⟩
    have hT2 : h''.get? s.heap.objs.size = some { cls := .type "tuple", data := .seq #[.int i tk, y] } := (sb.2 _ (Nat.ne_of_gt hel)).trans hT
    have J : Inv X pins σ (upd H s.heap.objs.size (.tup [.int (i : Nat), x])) { s with heap := h'', toks := tk + 1 } :=
      I.turnedNew (ch := [e, it]) (fun b ob hb q => by
        have n1 : b ≠ e := fun z => hb (by simp [z])
        have n2 : b ≠ it := fun z => hb (by simp [z])
        exact (sb.2 b n1).trans (hk b ob n1 n2 q)) hf (Nat.le_refl _) (by
        refine ⟨by show 2 ≤ sizeLine; decide, [.int i tk, y], .cons ⟨_, rfl⟩ (.cons ru .nil), _, hT2, rfl, _, rfl⟩)
    refine ⟨.ref s.heap.objs.size, _, J, rfl, ⟨_, x, rfl, I.hok.fresh (Nat.le_refl _), rfl, fun ys hy => by rw [I.tuple_inj hy hq]; exact hx⟩, ⟨⟨y, ?_⟩, hst'.1.at fun o q => (sb.2 it (Ne.symm hne)).trans q, hne⟩, fun b hb => ?_⟩
    · rw [show ((i + 1 : Nat) : Int) = (i : Int) + 1 by omega]; exact he'
    · have hb' : b < s.heap.objs.size := by
        rcases (by simpa using hb : b = e ∨ b = it) with z | z
        · rw [z]; exact hel
        · rw [z]; exact hil
      rw [upd_ne (Nat.ne_of_lt hb')]
      exact (hf b hb).1
  done := by
    intro X hP hw hK hc i pins s σ H E I hf st hg
    subst hP hw hK
    obtain ⟨⟨old, he⟩, hit, hne⟩ := st
    obtain ⟨xs, hq, hx⟩ := hg
    obtain ⟨its, rv, p, hz⟩ := I.tuple hq
    obtain ⟨oi, hoi, hci, hdi⟩ := id hit
    obtain ⟨oa, hoa, hca, _⟩ := id p
    have nai : a ≠ it := fun z => by
      rw [z, hoi] at hoa
      cases hoa
      exact absurd (Value.type.inj (hci.symm.trans hca)) (by decide)
    obtain ⟨f0, f1, f2, f3, f4, f5⟩ := hf it (by simp)
    have hl := rv.length
    have D : Draws X.prog X.w X.A.in1 it [it, a] its.toArray.size _ _ := Draws.tuple (A := X.A.in1) (show X.A.in1.handled = none from I.ok.hd hc) it a nai its.toArray
    have hn : its.toArray.size = i := by
      rw [List.size_toArray]; omega
    exact wpAny_pyNext_enum_endD D he ⟨by rw [hn]; exact hit, p⟩ fun h' eb => ⟨rfl, I.turned (t' := s.toks) (fun b o hb q => eb b o hb q) f0 f1 f3 f4 f5⟩
  self := fun A i s Q E st h => let ⟨⟨_, he⟩, _⟩ := st; wpAny_pyIter_enum he h
end Dl
end
section
set_option Elab.async false
set_option linter.all false
set_option maxRecDepth 100000
set_option maxHeartbeats 4000000
namespace Dl
open PySem PySem.Spec PyProof.Rows L2 StX

theorem RepL.strs {K : Kx} {c : Option Addr} {I : Hp} : ∀ ns : List Str, RepL K c I (ns.map V.str) (ns.map D.str)
  | [] => .nil
  | n :: ns => .cons (.str n) (RepL.strs ns)
/-! enumerate -/
def enumL : Nat → List D → List D
  | _, [] => []
  | k, x :: xs => .ktp [.int (k : Nat), x] :: enumL (k + 1) xs
theorem enumL_len : ∀ (xs : List D) (k : Nat), (enumL k xs).length = xs.length
  | [], _ => rfl
  | x :: xs, k => congrArg Nat.succ (enumL_len xs (k + 1))
theorem enumL_get : ∀ {xs : List D} {k i : Nat} {z : D}, (enumL k xs)[i]? = some z → ∃ x, xs[i]? = some x ∧ z = .ktp [.int ((k + i : Nat) : Nat), x]
  | [], _, _, _, h => by simp [enumL] at h
  | x :: xs, k, 0, z, h => by
    have : some (D.ktp [.int (k : Nat), x]) = some z := h
    cases this
    exact ⟨x, rfl, rfl⟩
  | x :: xs, k, i + 1, z, h => by
    obtain ⟨y, h1, h2⟩ := enumL_get (xs := xs) (k := k + 1) (i := i) h
    exact ⟨y, h1, by rw [h2, show k + 1 + i = k + (i + 1) by omega]⟩
section
variable {K : Kx} {c : Option Addr} {I : Hp}
theorem yl_enumT {a : Addr} {xs : List V} {ds : List D} (h : SqT K I a xs) (r : RepL K c I xs ds) : Yl K c (IteT K a) I (enumL 0 ds) := fun I2 H2 sb s => by
  have hq : SqT K H2 a xs := s.sqT (sb_sqT sb h)
  refine ⟨fun i d e => ?_, ⟨xs, hq, by rw [r.length, enumL_len]⟩⟩
  obtain ⟨z, e2, rfl⟩ := enumL_get e
  obtain ⟨v, hv, rv⟩ := r.get e2
  refine ⟨⟨xs, v, hq, hv⟩, fun x H3 hy => ?_⟩
  obtain ⟨T, y, rfl, hT, rfl, hy⟩ := hy
  have := hy xs hq
  rw [hv] at this
  cases this
  have g := Gr.new (o := .tup [.int (i : Nat), v]) s hT
  refine ⟨_, g, .ktp (.of upd_same) ?_⟩
  rw [show 0 + i = i by omega]
  exact .cons (.int _) (.one ((rv.mono sb).mono g.s1))
theorem yl_enumL {a : Addr} {xs : List V} {ds : List D} (h : I a = some (.lst xs)) (r : RepL K c I xs ds) : Yl K c (Ite K a) I (enumL 0 ds) := fun I2 H2 sb s => by
  have hq : SqL K H2 a xs := .of (s.lst (sb _ _ h))
  refine ⟨fun i d e => ?_, ⟨xs, hq, by rw [r.length, enumL_len]; exact Nat.le_refl _⟩⟩
  obtain ⟨z, e2, rfl⟩ := enumL_get e
  obtain ⟨v, hv, rv⟩ := r.get e2
  refine ⟨⟨xs, v, hq, hv⟩, fun x H3 hy => ?_⟩
  obtain ⟨T, y, rfl, hT, rfl, hy⟩ := hy
  have := hy xs hq
  rw [hv] at this
  cases this
  have g := Gr.new (o := .tup [.int (i : Nat), v]) s hT
  refine ⟨_, g, .ktp (.of upd_same) ?_⟩
  rw [show 0 + i = i by omega]
  exact .cons (.int _) (.one ((rv.mono sb).mono g.s1))
end
def iEnumT (K : Kx) (ta : TA) : TI := fun σ H R => ta σ H fun vs H1 => ∃ a xs, vs = [.ref a] ∧ SqT K H1 a xs ∧ R (IteT K a) H1
theorem pi_enumT {X : Cx} {e : Expr} {ta : TA} {p pos tpos : Pos} {elts : List Expr} {kk : Nat} (hg : Gl X "enumerate") (hm : X.mg "enumerate" = none) (ha : PA X [e] ta) (hs : starEach [e] X.env = [(false, eval e X.env)] := by rfl) :
    PI X (.Tuple elts kk tpos) (.Call (.Name "enumerate" p) [e] [] pos) (iEnumT X.kx ta) := by
  refine ⟨fun pins s σ H R I h => Call_ (ld_blt I hg hm boot_enumerate (PyProof.Rows.callWith_type1 (thn (ha.run pos pins s σ H _ I h) fun us s1 z => ?_) hs rfl))⟩
  obtain ⟨vs, H1, J, r1, a, xs, rfl, hq, q⟩ := z
  obtain ⟨u, rfl, ru⟩ := vals1 r1
  obtain rfl : u = Value.ref a := ru
  obtain ⟨its, rv, p', hz⟩ := J.tuple hq
  refine call_enumB (begins_tuple a its.toArray) p' fun h' he hit hk => wpAny_pyIter_enum he ?_
  have J2 : Inv X pins σ H1 { s1 with heap := h' } := J.kept (t' := s1.toks) hk
  refine ⟨s1.heap.objs.size + 1, [s1.heap.objs.size + 1, s1.heap.objs.size], _, _, H1, rfl, J2, turn_enumT a (s1.heap.objs.size + 1) s1.heap.objs.size, ⟨⟨.none, he⟩, ⟨_, hit, rfl, rfl⟩, Nat.succ_ne_self _⟩, fun b hb => ?_, q⟩
  have hle : s1.heap.objs.size ≤ b := by
    rcases (by simpa using hb : b = s1.heap.objs.size + 1 ∨ b = s1.heap.objs.size) with z | z
    · rw [z]; exact Nat.le_add_right _ _
    · rw [z]; exact Nat.le_refl _
  exact J.fpOk hle (J.hok.fresh hle)
def dEnT (ax : Da) : Da := fun ρ s => (ax ρ s).bind fun p => match p.1 with
  | [d] => d.asT.map fun xs => (enumL 0 xs, p.2)
  | _ => none
def dEnL (ax : Da) : Da := fun ρ s => (ax ρ s).bind fun p => match p.1 with
  | [.lst xs] => some (enumL 0 xs, p.2)
  | _ => none
theorem si_enumT {K : Kx} {tx : TA} {ax : Da} (h1 : SndA K tx ax) : SndI K (iEnumT K tx) (dEnT ax) := fun c I H σ ρ s xs s' e h R q => by
  obtain ⟨⟨x, s1⟩, h2, h⟩ := bind_some_of h
  refine h1 _ _ _ _ _ _ _ _ e h2 _ fun v I1 H1 g1 w1 r1 => ?_
  split at h
  · rename_i d hd
    have hd : x = [d] := hd
    subst hd
    obtain ⟨ds, h3, h⟩ := map_some_of h
    cases h
    cases r1 with
    | cons a r =>
      cases r
      obtain ⟨p, vs, rfl, hp, rp⟩ := a.asT h3
      exact ⟨p, vs, rfl, g1.s2.sqT hp, q _ I1 H1 g1 w1 (yl_enumT hp rp)⟩
  · cases h
theorem si_enumL {K : Kx} {tx : TA} {ax : Da} (h1 : SndA K tx ax) : SndI K (iEnum K tx) (dEnL ax) := fun c I H σ ρ s xs s' e h R q => by
  obtain ⟨⟨x, s1⟩, h2, h⟩ := bind_some_of h
  refine h1 _ _ _ _ _ _ _ _ e h2 _ fun v I1 H1 g1 w1 r1 => ?_
  split at h
  · rename_i ds hd
    have hd : x = [.lst ds] := hd
    subst hd
    cases h
    cases r1 with
    | cons a r =>
      cases r
      cases a with
      | lst hp rp => exact ⟨_, _, rfl, .of (g1.s2.lst hp), q _ I1 H1 g1 w1 (yl_enumL hp rp)⟩
  · cases h
section
variable {X : Cx} {e o : Expr} {te : TE} {da : Dn} {tx : TA} {ax : Da} {p pos tpos apos cpos : Pos} {elts : List Expr} {kk : Nat}
theorem ei_enumT (hg : Gl X "enumerate") (hm : X.mg "enumerate" = none) (ha : EA X [e] tx ax) (hs : starEach [e] X.env = [(false, eval e X.env)] := by rfl) : EI X (.Tuple elts kk tpos) (.Call (.Name "enumerate" p) [e] [] pos) (iEnumT X.kx tx) (dEnT ax) := ⟨pi_enumT hg hm ha.p hs, si_enumT ha.s⟩
theorem ei_enumL (hg : Gl X "enumerate") (hm : X.mg "enumerate" = none) (ha : EA X [e] tx ax) (hs : starEach [e] X.env = [(false, eval e X.env)] := by rfl) : EI X (.Tuple elts kk tpos) (.Call (.Name "enumerate" p) [e] [] pos) (iEnum X.kx tx) (dEnL ax) := ⟨pi_enum hg hm ha.p hs, si_enumL ha.s⟩
end

/-! t.count(x); methods of texts -/
def countD (d e : D) : Option D := match d, e with
  | .tup xs, .str y => (strsOf xs).map fun ys => .int ((ys.count y : Nat) : Int)
  | _, _ => none
theorem countV (y : Str) : ∀ ys : List Str, ((ys.map V.str).countP fun z => eqV z (.str y)) = ys.count y
  | [] => rfl
  | x :: xs => by
    rw [List.map_cons, List.countP_cons, List.count_cons, countV y xs]
    rfl
theorem sn_tcount {K : Kx} {to te : TE} {dx da : Dn} (h0 : SndE K to dx) (h1 : SndE K te da) : SndE K (tTCount to te) (dOp countD dx da) := fun c I H σ ρ s d s' e h Q q => by
  obtain ⟨⟨x, s1⟩, h2, h⟩ := bind_some_of h
  obtain ⟨⟨y, s2⟩, h3, h⟩ := bind_some_of h
  obtain ⟨z, h4, h⟩ := map_some_of h
  cases h
  refine h0 _ _ _ _ _ _ _ _ e h2 _ fun v I1 H1 g1 w1 r1 => ?_
  unfold countD at h4
  split at h4
  · rename_i xs y1 hx1 hy1
    have hx1 : x = .tup xs := hx1
    have hy1 : y = .str y1 := hy1
    subst hx1 hy1
    obtain ⟨ys, h5, rfl⟩ := map_some_of h4
    cases r1 with
    | @tup a o vs ds hI ho rl =>
      have hH := g1.s2.get hI fun _ z => by cases z
      refine ⟨a, o, vs, rfl, hH, ho, ?_⟩
      refine h1 _ _ _ _ _ _ _ _ (e.grow g1 w1) h3 _ fun u I2 H2 g2 w2 r2 => ?_
      cases r2
      have ev := strsOf_rep rl h5
      refine ⟨g2.s2.get (g2.s1 _ _ hI) (fun _ z => by cases z), rfl, ?_, ?_⟩
      · rw [ev, List.all_map]
        exact List.all_eq_true.mpr fun _ _ => rfl
      · rw [ev, countV]
        exact q _ I2 H2 (g1.tr w1 g2) w2 (.int _)
  · cases h4
def SndMS (K : Kx) (r : V → List V → Hp → VK → Prop) (f : Str → List D → Option D) : Prop := ∀ c I H x xs ds z, Sub I H → RepL K c I xs ds → f x ds = some z → ∀ Q, RQ K c I H z Q → r (.str x) xs H Q
def dMethS (f : Str → List D → Option D) (dx : Dn) (ax : Da) : Dn := fun ρ s => (dx ρ s).bind fun p => match p.1 with
  | .str x => (ax ρ p.2).bind fun q => (f x q.1).map fun z => (z, q.2)
  | _ => none
theorem sn_bmS {K : Kx} {r : V → List V → Hp → VK → Prop} {f : Str → List D → Option D} {to : TE} {tx : TA} {dx : Dn} {ax : Da} (h0 : SndE K to dx) (h1 : SndA K tx ax) (hr : SndMS K r f) : SndE K (tBM K "str" r to tx) (dMethS f dx ax) := fun c I H σ ρ s d s' e h Q q => by
  obtain ⟨⟨x, s1⟩, h2, h⟩ := bind_some_of h
  refine h0 _ _ _ _ _ _ _ _ e h2 _ fun v I1 H1 g1 w1 r1 => ?_
  cases r1 with
  | str x =>
    obtain ⟨⟨y, s2⟩, h3, h⟩ := bind_some_of h
    obtain ⟨z, h4, h⟩ := map_some_of h
    cases h
    refine ⟨rfl, ?_⟩
    refine h1 _ _ _ _ _ _ _ _ (e.grow g1 w1) h3 _ fun u I2 H2 g2 w2 r2 => ?_
    refine hr _ _ _ _ _ _ _ g2.s2 r2 h4 _ fun t I3 H3 g3 r3 => ?_
    exact q t I3 H3 ((g1.tr w1 g2).tr w2 g3.up) (w2.gr g3) r3
  | _ => cases h
def countSD : Str → List D → Option D
  | x, [.str y] => some (.int (Txt.count x y))
  | _, _ => none
def rCountS : V → List V → Hp → VK → Prop := fun x xs H Q => ∃ a b, x = .str a ∧ xs = [.str b] ∧ Q (.int (Txt.count a b)) H
theorem sm_count {K : Kx} : SndMS K rCountS countSD := fun c I H x xs ds z s rx h Q q => by
  unfold countSD at h
  split at h
  · cases h
    cases rx with
    | cons a r => cases r; cases a; exact ⟨_, _, rfl, rfl, q.val s (.int _)⟩
  · cases h
def joinSD : Str → List D → Option D
  | x, [.lst ds] => (strsOf ds).bind fun ys => if (ys.map fun z => z.length).sum + ys.length * x.length ≤ 1000000 then some (.str (Txt.join x ys)) else none
  | _, _ => none
def rJoinS (K : Kx) : V → List V → Hp → VK → Prop := fun x xs H Q => ∃ a p, ∃ ys : List Str, x = .str a ∧ xs = [.ref p] ∧ (SqL K H p (ys.map V.str) ∨ SqT K H p (ys.map V.str)) ∧ (ys.map (fun z => z.length)).sum + ys.length * a.length ≤ 16777216 ∧ Q (.str (Txt.join a ys)) H
theorem sm_join {K : Kx} : SndMS K (rJoinS K) joinSD := fun c I H x xs ds z s rx h Q q => by
  unfold joinSD at h
  split at h
  · obtain ⟨ys, h1, h⟩ := bind_some_of h
    split at h
    · rename_i hl
      cases h
      cases rx with
      | cons a r =>
        cases r
        cases a with
        | lst h2 rl =>
          rw [strsOf_rep rl h1] at h2
          exact ⟨_, _, ys, rfl, rfl, .inl (.of (s.lst h2)), by omega, q.val s (.str _)⟩
    · cases h
  · cases h
section
variable {X : Cx} {o e : Expr} {es : List Expr} {to te : TE} {dx da : Dn} {tx : TA} {ax : Da} {apos cpos : Pos}
theorem ee_tcount (ho : EE X o to dx) (he : EE X e te da) (hbase : attributeBase o "count" X.env (eval o X.env) = eval o X.env := by rfl) (hline : (apos.endLine == cpos.line) = true := by rfl) (hs : starEach [e] X.env = [(false, eval e X.env)] := by rfl) :
    EE X (.Call (.Attribute o "count" apos) [e] [] cpos) (tTCount to te) (dOp countD dx da) := ⟨pe_tcount ho.p he.p hbase hline hs, sn_tcount ho.s he.s⟩
/-- a method of str -/
theorem ee_bmS {name : Str} {id : String} {r : V → List V → Hp → VK → Prop} {f : Str → List D → Option D} (slot : Slot "str" name id) (hty : typeOf (.builtin id) = pure (.type "method_descriptor")) (hm : MtR X id r) (hr : SndMS X.kx r f) (ho : EE X o to dx) (ha : EA X (e :: es) tx ax)
    (hbase : attributeBase o name X.env (eval o X.env) = eval o X.env := by rfl)
    (hfew : ((backTo cpos (starEach (e :: es) X.env)).all (fun x => !x.1) && (backToKw cpos (keywordEach [] X.env)).all (fun x => x.1.isSome) && decide ((e :: es).length + ([] : List Keyword).length + (if ([] : List Keyword).isEmpty then 0 else 1) < 30)) = true := by rfl)
    (hline : (apos.endLine == cpos.line) = true := by rfl) (hs : starEach (e :: es) X.env = (false, eval e X.env) :: starEach es X.env := by rfl) (hplain : (backTo cpos (starEach es X.env)).any (fun z => z.1) = false := by rfl) :
    EE X (.Call (.Attribute o name apos) (e :: es) [] cpos) (tBM X.kx "str" r to tx) (dMethS f dx ax) :=
  ⟨pe_bm PySem.F.plainAttrs_str slot hty hm ho.p ha.p hbase hfew hline hs hplain, sn_bmS ho.s ha.s hr⟩
end

/-! dicts with text keys -/
def lookD {κ : Type} [DecidableEq κ] (es : List (κ × D)) (k : κ) : Option D := (es.find? fun z => decide (z.1 = k)).map fun z => z.2
def putD {κ : Type} [DecidableEq κ] (es : List (κ × D)) (k : κ) (v : D) : List (κ × D) := if (es.any fun z => decide (z.1 = k)) = true then es.map (fun z => if z.1 = k then (z.1, v) else z) else es ++ [(k, v)]
def mergeD (es more : List (Str × D)) : List (Str × D) := more.foldl (fun acc z => putD acc z.1 z.2) es
section
variable {K : Kx} {c : Option Addr} {I : Hp}
theorem RepS.length : ∀ {kvs : List (Key × V)} {es : List (Str × D)}, RepS K c I kvs es → kvs.length = es.length
  | _, _, .nil => rfl
  | _, _, .cons _ r => congrArg Nat.succ r.length
theorem dec_inr {a b : Str} : decide ((Sum.inr a : Key) = Sum.inr b) = decide (a = b) := key_rr a b
theorem RepS.look : ∀ {kvs : List (Key × V)} {es : List (Str × D)} {k : Str} {d : D}, RepS K c I kvs es → lookD es k = some d → ∃ v, valV kvs (Sum.inr k) = some v ∧ Rep K c I v d
  | _, _, _, _, .nil, h => by cases h
  | _, _, k, d, .cons (k := k') a r, h => by
    by_cases e : k' = k
    · subst e
      rename_i v0 d0 _ _
      have h : some d0 = some d := by simpa [lookD, List.find?_cons] using h
      cases h
      exact ⟨v0, valV_pos rfl, a⟩
    · rename_i v0 d0 vs0 ds0
      have h2 : lookD ds0 k = some d := by
        unfold lookD at h ⊢
        rw [List.find?_cons, decide_eq_false e] at h
        exact h
      obtain ⟨v, h3, h4⟩ := r.look h2
      exact ⟨v, by rw [valV_neg (fun z => e (Sum.inr.inj z))]; exact h3, h4⟩
theorem RepS.none : ∀ {kvs : List (Key × V)} {es : List (Str × D)} {k : Str}, RepS K c I kvs es → lookD es k = Option.none → valV kvs (Sum.inr k) = Option.none
  | _, _, _, .nil, h => rfl
  | _, _, k, .cons (k := k') a r, h => by
    by_cases e : k' = k
    · subst e
      simp [lookD, List.find?_cons] at h
    · rename_i v0 d0 vs0 ds0
      have h2 : lookD ds0 k = Option.none := by
        unfold lookD at h ⊢
        rw [List.find?_cons, decide_eq_false e] at h
        exact h
      rw [valV_neg (fun z => e (Sum.inr.inj z))]
      exact r.none h2
theorem RepS.any (k : Str) : ∀ {kvs : List (Key × V)} {es : List (Str × D)}, RepS K c I kvs es → (kvs.any fun z => decide (z.1 = Sum.inr k)) = es.any fun z => decide (z.1 = k)
  | _, _, .nil => rfl
  | _, _, .cons a r => by
    rw [List.any_cons, List.any_cons, r.any k]
    show (decide (Sum.inr _ = Sum.inr k) || _) = _
    rw [dec_inr]
theorem RepS.repl (k : Str) {v : V} {d : D} (h : Rep K c I v d) : ∀ {kvs : List (Key × V)} {es : List (Str × D)}, RepS K c I kvs es → RepS K c I (kvs.map fun z => if z.1 = Sum.inr k then (z.1, v) else z) (es.map fun z => if z.1 = k then (z.1, d) else z)
  | _, _, .nil => .nil
  | _, _, .cons (k := k') a r => by
    rw [List.map_cons, List.map_cons]
    by_cases e : k' = k
    · subst e
      rw [if_pos rfl, if_pos rfl]
      exact .cons h (r.repl _ h)
    · rw [if_neg (fun z => e (Sum.inr.inj z)), if_neg e]
      exact .cons a (r.repl _ h)
theorem RepS.snoc {k : Str} {v : V} {d : D} (h : Rep K c I v d) : ∀ {kvs : List (Key × V)} {es : List (Str × D)}, RepS K c I kvs es → RepS K c I (kvs ++ [(Sum.inr k, v)]) (es ++ [(k, d)])
  | _, _, .nil => .cons h .nil
  | _, _, .cons a r => .cons a (r.snoc h)
theorem RepS.put {kvs : List (Key × V)} {es : List (Str × D)} {k : Str} {v : V} {d : D} (r : RepS K c I kvs es) (h : Rep K c I v d) : RepS K c I (putK kvs (Sum.inr k) v) (putD es k d) := by
  unfold putK putD
  rw [r.any k]
  split
  · exact r.repl k h
  · exact r.snoc h
theorem RepS.merge : ∀ {more : List (Key × V)} {es2 : List (Str × D)} {kvs : List (Key × V)} {es : List (Str × D)}, RepS K c I more es2 → RepS K c I kvs es → RepS K c I (mergeK kvs more) (mergeD es es2)
  | _, _, _, _, .nil, r => r
  | _, _, _, _, .cons a r2, r => by
    unfold mergeK mergeD
    rw [List.foldl_cons, List.foldl_cons]
    exact RepS.merge r2 (r.put a)
end
abbrev Dp2 := List Sl → Tau → Option (List (Str × D) × Tau)
def dpNil : Dp2 := fun _ s => some ([], s)
def dpCons (k v : Dn) (r : Dp2) : Dp2 := fun ρ s => (k ρ s).bind fun p => match p.1 with
  | .str x => (v ρ p.2).bind fun q => (r ρ q.2).map fun t => ((x, q.1) :: t.1, t.2)
  | _ => none
def dDisp (r : Dp2) : Dn := fun ρ s => (r ρ s).bind fun p => if p.1.length ≤ 15 then some (.dS (mergeD [] p.1), p.2) else none
def SndP (K : Kx) (trs : List (TE × TE)) (dp : Dp2) : Prop := ∀ c I H σ ρ s es s', Ec K c I H σ ρ s → dp ρ s = some (es, s') →
  ∀ Q : List (V × V) → Hp → Prop, (∀ kvs I' H', Gr c I H I' H' → DW K c s' I' H' → RepS K c I' kvs es → Q (kvs.map fun z => (kV z.1, z.2)) H') → tPairs trs σ H Q
theorem sp_nil {K : Kx} : SndP K [] dpNil := fun c I H σ ρ s es s' e h Q q => by
  cases h
  exact q [] I H (.refl e.sub) e.w .nil
theorem sp_cons {K : Kx} {tk tv : TE} {trs : List (TE × TE)} {dk dv : Dn} {dr : Dp2} (h1 : SndE K tk dk) (h2 : SndE K tv dv) (h3 : SndP K trs dr) : SndP K ((tk, tv) :: trs) (dpCons dk dv dr) := fun c I H σ ρ s es s' e h Q q => by
  obtain ⟨⟨x, s1⟩, ha, h⟩ := bind_some_of h
  refine h1 _ _ _ _ _ _ _ _ e ha _ fun v I1 H1 g1 w1 r1 => ?_
  cases r1 with
  | str x =>
    obtain ⟨⟨y, s2⟩, hb, h⟩ := bind_some_of h
    obtain ⟨⟨z, s3⟩, hc, h⟩ := map_some_of h
    cases h
    refine h2 _ _ _ _ _ _ _ _ (e.grow g1 w1) hb _ fun u I2 H2 g2 w2 r2 => ?_
    have g12 := g1.tr w1 g2
    refine h3 _ _ _ _ _ _ _ _ (e.grow g12 w2) hc _ fun kvs I3 H3 g3 w3 r3 => ?_
    exact q ((Sum.inr x, u) :: kvs) I3 H3 (g12.tr w2 g3) w3 (.cons (r2.mono g3.s1) r3)
  | _ => cases h
theorem sn_disp {K : Kx} {trs : List (TE × TE)} {dr : Dp2} (h1 : SndP K trs dr) : SndE K (tDisp trs) (dDisp dr) := fun c I H σ ρ s d s' e h Q q => by
  obtain ⟨⟨es, s1⟩, ha, h⟩ := bind_some_of h
  split at h
  · rename_i hl
    cases h
    intro p hp
    have cD : c ≠ some p := fun z => by
      obtain ⟨_, sc, z2, _⟩ := e.w p z
      rw [hp] at z2; cases z2
    have hI := e.sub.free hp
    have g0 : Gr c I H I (upd H p (.dK [])) := ⟨.refl _, e.sub.updH hI, (Kp.refl _ _).updH hp, fun a z => .inl z⟩
    have w0 : DW K c s I (upd H p (.dK [])) := fun r hr => by
      obtain ⟨z1, sc, z2, z3⟩ := e.w r hr
      exact ⟨z1, sc, by rw [upd_ne (ne_of_none z2 hp)]; exact z2, z3⟩
    refine h1 _ _ _ _ _ _ _ _ (e.grow g0 w0) ha _ fun kvs I1 H1 g1 w1 r1 => ?_
    have hp1 : H1 p = some (.dK []) := g1.kp.get cD upd_same nt_dK
    have hI1 : I1 p = none := by
      cases qq : I1 p with
      | none => rfl
      | some o =>
        rcases g1.nw p (by rw [qq]; simp) with z | z
        · exact absurd hI z
        · rw [upd_same] at z; cases z
    refine ⟨hp1, kvs, rfl, by rw [r1.length]; exact hl, ?_⟩
    have sI : Sb I1 (upd I1 p (.dK (mergeK [] kvs))) := fun a o z => by rw [upd_ne (ne_of_none z hI1)]; exact z
    refine q _ (upd I1 p (.dK (mergeK [] kvs))) _ ⟨(g0.s1.trans g1.s1).trans sI, (g1.s2.updH hI1).updI hI1 upd_same, (g0.kp.trans g1.kp).updH hp, fun a z => ?_⟩ (fun r hr => ?_) (.dS upd_same (RepS.merge (r1.mono sI) .nil))
    · by_cases n : a = p
      · subst n; exact .inr hp
      · rw [upd_ne n] at z
        rcases g1.nw a z with z | z
        · exact .inl z
        · rw [upd_ne n] at z; exact .inr z
    · obtain ⟨z1, sc, z2, z3⟩ := w1 r hr
      have n : r ≠ p := fun z => cD (by rw [hr, z])
      exact ⟨by rw [upd_ne n]; exact z1, sc, by rw [upd_ne n]; exact z2, sb_sqL sI z3⟩
  · cases h
def dgetD : D → D → Option D
  | .dS es, .str k => lookD es k
  | _, _ => none
theorem sn_dget {K : Kx} {td ty : TE} {dd dy : Dn} (h0 : SndE K td dd) (h1 : SndE K ty dy) : SndE K (tDGet td ty) (dOp dgetD dd dy) := fun c I H σ ρ s d s' e h Q q => by
  obtain ⟨⟨x, s1⟩, h2, h⟩ := bind_some_of h
  obtain ⟨⟨y, s2⟩, h3, h⟩ := bind_some_of h
  obtain ⟨z, h4, h⟩ := map_some_of h
  cases h
  refine h0 _ _ _ _ _ _ _ _ e h2 _ fun v I1 H1 g1 w1 r1 => ?_
  refine h1 _ _ _ _ _ _ _ _ (e.grow g1 w1) h3 _ fun u I2 H2 g2 w2 r2 => ?_
  unfold dgetD at h4
  split at h4
  · rename_i es k hx hy
    have hx : x = .dS es := hx
    have hy : y = .str k := hy
    subst hx hy
    cases r2
    cases r1 with
    | dS hI rs =>
      obtain ⟨v, h5, h6⟩ := (rs.mono g2.s1).look h4
      exact ⟨_, v, rfl, .inl ⟨_, Sum.inr k, g2.s2.dK (g2.s1 _ _ hI), rfl, h5.symm⟩, q _ I2 H2 (g1.tr w1 g2) w2 h6⟩
  · cases h4
/-- d.get(k, x) -/
def dget2D (d k x : D) : Option D := match d, k with
  | .dS es, .str k => some ((lookD es k).getD x)
  | _, _ => none
def dGet2 (dd dy dx : Dn) : Dn := fun ρ s => (dd ρ s).bind fun p => (dy ρ p.2).bind fun q => (dx ρ q.2).bind fun r => (dget2D p.1 q.1 r.1).map fun z => (z, r.2)
theorem sn_dget2 {K : Kx} {td ty tx : TE} {dd dy dx : Dn} (h0 : SndE K td dd) (h1 : SndE K ty dy) (h2 : SndE K tx dx) : SndE K (tDGet2 td ty tx) (dGet2 dd dy dx) := fun c I H σ ρ s d s' e h Q q => by
  obtain ⟨⟨x, s1⟩, ha, h⟩ := bind_some_of h
  obtain ⟨⟨y, s2⟩, hb, h⟩ := bind_some_of h
  obtain ⟨⟨t, s3⟩, hc, h⟩ := bind_some_of h
  obtain ⟨z, h4, h⟩ := map_some_of h
  cases h
  unfold dget2D at h4
  split at h4
  · rename_i es k hx hy
    have hx : x = .dS es := hx
    have hy : y = .str k := hy
    subst hx hy
    refine h0 _ _ _ _ _ _ _ _ e ha _ fun v I1 H1 g1 w1 r1 => ?_
    cases r1 with
    | dS hI rs =>
      refine ⟨_, rfl, .inl ⟨_, g1.s2.dK hI⟩, ?_⟩
      refine h1 _ _ _ _ _ _ _ _ (e.grow g1 w1) hb _ fun u I2 H2 g2 w2 r2 => ?_
      have g12 := g1.tr w1 g2
      refine h2 _ _ _ _ _ _ _ _ (e.grow g12 w2) hc _ fun w I3 H3 g3 w3 r3 => ?_
      cases r2
      have rs3 := (rs.mono g2.s1).mono g3.s1
      refine ⟨_, .inl ⟨_, Sum.inr k, g3.s2.dK (g3.s1 _ _ (g2.s1 _ _ hI)), rfl, rfl⟩, ?_⟩
      cases hl : lookD es k with
      | some d1 =>
        rw [hl] at h4
        cases h4
        obtain ⟨v1, h5, h6⟩ := rs3.look hl
        rw [h5]
        exact q _ I3 H3 (g12.tr w2 g3) w3 h6
      | none =>
        rw [hl] at h4
        cases h4
        rw [rs3.none hl]
        exact q _ I3 H3 (g12.tr w2 g3) w3 r3
  · cases h4
section
variable {X : Cx} {o i : Expr} {td ty : TE} {dd dy : Dn} {pos : Pos} {k : Nat}
structure EP2 (X : Cx) (pos : Pos) (keys : List (Option Expr)) (values : List Expr) (trs : List (TE × TE)) (dp : Dp2) : Prop where
  p : PPs X pos keys values trs
  s : SndP X.kx trs dp
theorem ep_nil : EP2 X pos [] [] [] dpNil := ⟨pps_nil, sp_nil⟩
theorem ep_cons {x v : Expr} {ks : List (Option Expr)} {vs : List Expr} {tk tv : TE} {dk dv : Dn} {trs : List (TE × TE)} {dr : Dp2} (hk : EE X x tk dk) (hv : EE X v tv dv) (hr : EP2 X pos ks vs trs dr) : EP2 X pos (some x :: ks) (v :: vs) ((tk, tv) :: trs) (dpCons dk dv dr) :=
  ⟨pps_cons hk.p hv.p hr.p, sp_cons hk.s hv.s hr.s⟩
theorem ee_disp {keys : List (Option Expr)} {values : List Expr} {trs : List (TE × TE)} {dp : Dp2} (h : EP2 X pos keys values trs dp) (hall : keys.all (fun z => z.isSome) = true := by rfl) (hl : keys.length = values.length := by rfl) (h0 : keys ≠ [] := by exact fun z => by cases z) (h15 : keys.length ≤ 15 := by decide) :
    EE X (.Dict keys values pos) (tDisp trs) (dDisp dp) := ⟨pe_disp h.p hall hl h0 h15, sn_disp h.s⟩
theorem ee_dget (hr : Room k X.A) (ho : EE X o td dd) (hi : EE X i ty dy) (hs : NoSl i := by exact fun _ _ => rfl) : EE X (.Subscript o i pos) (tDGet td ty) (dOp dgetD dd dy) := ⟨pe_dget (hu_of hr) ho.p hi.p hs, sn_dget ho.s hi.s⟩
end
end Dl
end
section
set_option Elab.async false
set_option linter.all false
set_option maxRecDepth 100000
set_option maxHeartbeats 4000000
namespace Dl
open PySem PySem.Spec PyProof.Rows L2 StX

/-! two readings for one expression -/
theorem pe_or {X : Cx} {e : Expr} {t u : TE} (h1 : PE X e t) (h2 : PE X e u) : PE X e (fun σ H Q => t σ H Q ∨ u σ H Q) :=
  ⟨fun pins s σ H Q I h => h.elim (h1.run pins s σ H Q I) (h2.run pins s σ H Q I)⟩

/-! the keys of a text dict, walked in a comprehension -/
def dKeys (i : Nat) : Da := fun ρ s => match ρ[i]? with
  | some (.im (.dS es)) => some (es.map fun z => D.str z.1, s)
  | _ => none
section
variable {K : Kx} {c : Option Addr} {I H H1 : Hp}
theorem RepS.key : ∀ {kvs : List (Key × V)} {es : List (Str × D)} {i : Nat} {z : Str × D}, RepS K c I kvs es → es[i]? = some z → ∃ v, kvs[i]? = some (.inr z.1, v) ∧ Rep K c I v z.2
  | _, _, _, _, .nil, h => by cases h
  | _, _, 0, z, .cons a r, h => by cases h; exact ⟨_, rfl, a⟩
  | _, _, i + 1, z, .cons a r, h => RepS.key (i := i) r h
theorem OwOk.at_ {p : Addr} {d : D} (h : OwOk K c I H p d) (e : ∀ a, I a = none → H a ≠ none → H1 a = H a) : OwOk K c I H1 p d := by
  cases h with
  | lst h1 h2 h3 h4 => exact .lst (by rw [e _ h3 (by rw [h1]; simp)]; exact h1) h2 h3 h4
  | dS h1 h2 h3 h4 => exact .dS (by rw [e _ h3 (by rw [h1]; simp)]; exact h1) h2 h3 h4
  | dsk h1 r1 r2 r3 h3 h4 => exact .dsk (by rw [e _ h3 (by rw [h1]; simp)]; exact h1) r1 r2 r3 h3 h4
theorem SlL.at_ (e : ∀ a, I a = none → H a ≠ none → H1 a = H a) : ∀ {σ : L2.St} {ρ : List Sl}, SlL K c I H σ ρ → SlL K c I H1 σ ρ
  | _, _, .nil => .nil
  | _, _, .cons (.un o) r => .cons (.un o) (SlL.at_ e r)
  | _, _, .cons (.im a) r => .cons (.im a) (SlL.at_ e r)
  | _, _, .cons (.ow a) r => .cons (.ow (a.at_ e)) (SlL.at_ e r)
theorem sn_lcK {g : TG} {dg : Dg} {i : Nat} {js vs : List Nat} {tt : TT} {bt : Dt} {te : TE} {de : Dn} (hg : SndG K g dg js) (hj : ∀ k ∈ js, k ∈ vs) (ht : SndT K tt bt) (he : SndE K te de) :
    SndE K (fun σ H Q => tLc (iKeys (tVar i)) g tt te vs σ H Q ∨ tLockE (tLc (iKeys (tVar i)) g tt te vs) σ H Q) (dLc (dKeys i) dg bt de vs) := fun c I H σ ρ s d s' e h Q q => by
  have h0 := h
  obtain ⟨⟨xs, s1⟩, h1, _⟩ := bind_some_of h
  obtain ⟨es, hes, rfl, rfl⟩ : ∃ es, ρ[i]? = some (.im (.dS es)) ∧ xs = es.map (fun z => D.str z.1) ∧ s1 = s := by
    unfold dKeys at h1
    split at h1
    · rename_i es q
      cases h1
      exact ⟨es, q, rfl, rfl⟩
    · cases h1
  obtain ⟨v, hv, rv⟩ := e.imm hes
  cases rv with
  | @dS a kvs _ hI r =>
    have ca : c ≠ some a := fun z => by
      obtain ⟨z1, _⟩ := e.w a z
      rw [hI] at z1; cases z1
    -- over a locked dict
    have key : ∀ (H1 : Hp) (ob : Obj), Ec K c I H1 σ ρ s1 → H1 a = some (.frz ob (.dK kvs)) → ∀ (Q1 : VK), (∀ v I' H', Gr c I H1 I' H' → DW K c s' I' H' → Rep K c I' v d → Q1 v H') → tLc (iKeys (tVar i)) g tt te vs σ H1 Q1 := fun H1 ob e1 hf Q1 q1 =>
      lc_core hg hj ht he e1 (fun xs s2 h2 R hR => by
        rw [h1] at h2
        cases h2
        refine ⟨_, hv, a, ob, rfl, .inl ⟨kvs, hf, hR _ I H1 (.refl e1.sub) e1.w fun I2 H2 s12 s22 kp => ?_⟩⟩
        have h2a := kp.get ca hf nt_frz
        refine ⟨fun j d' hd => ?_, h2a, by rw [List.length_map, r.length]; exact Nat.le_refl _⟩
        rw [List.getElem?_map] at hd
        obtain ⟨z, hz, rfl⟩ := map_some_of hd
        obtain ⟨v', hk, _⟩ := r.key hz
        refine ⟨⟨h2a, (List.getElem?_eq_some_iff.mp hk).1⟩, fun x H3 hy => ?_⟩
        obtain ⟨rfl, k, w, hw, rfl⟩ := hy
        rw [hk] at hw
        cases hw
        exact ⟨I2, .refl s22, .str _⟩) h0 Q1 q1
    rcases e.sub a _ hI with hf | ⟨_, ob, hf⟩ | ⟨zt, _⟩
    · right
      refine ⟨a, .dK kvs, hf, trivial, fun od => ?_⟩
      have ne : ∀ b, I b = none → upd H a (.frz od (.dK kvs)) b = H b := fun b hb => upd_ne fun z => by
        subst z
        rw [hI] at hb; cases hb
      have e1 : Ec K c I (upd H a (.frz od (.dK kvs))) σ ρ s1 := by
        refine ⟨fun b o hb => ?_, fun rr hr => ?_, e.sl.at_ fun b hb _ => ne b hb, e.uq⟩
        · by_cases z : b = a
          · subst z
            rw [hI] at hb; cases hb
            exact .inr (.inl ⟨⟨_, rfl⟩, od, upd_same⟩)
          · rcases e.sub b o hb with q1 | q1 | ⟨q1, q2⟩
            · exact .inl (by rw [upd_ne z]; exact q1)
            · exact .inr (.inl (by rw [upd_ne z]; exact q1))
            · exact .inr (.inr ⟨q1, q2.mono (fun _ _ y => y) (upd_ne z)⟩)
        · obtain ⟨z1, sc, z2, z3⟩ := e.w rr hr
          exact ⟨z1, sc, by rw [ne rr z1]; exact z2, z3⟩
      refine key _ od e1 upd_same _ fun v I' H' g' w' r' => ?_
      have ha' := g'.kp.get ca upd_same nt_frz
      refine ⟨ha', q v I' _ ⟨g'.s1, fun b o hb => ?_, fun b o nb hb => ?_, fun b hb => ?_⟩ (fun rr hr => ?_) r'⟩
      · by_cases z : b = a
        · subst z
          rw [g'.s1 b _ hI] at hb; cases hb
          exact .inl upd_same
        · rcases g'.s2 b o hb with q1 | q1 | ⟨q1, q2⟩
          · exact .inl (by rw [upd_ne z]; exact q1)
          · exact .inr (.inl (by rw [upd_ne z]; exact q1))
          · exact .inr (.inr ⟨q1, q2.mono (fun _ _ y => y) (upd_ne z)⟩)
      · by_cases z : b = a
        · subst z
          rw [hf] at hb; cases hb
          exact .inl upd_same
        · rw [upd_ne z]
          exact g'.kp b o nb (by rw [upd_ne z]; exact hb)
      · rcases g'.nw b hb with z | z
        · exact .inl z
        · by_cases n : b = a
          · subst n; rw [upd_same] at z; cases z
          · rw [upd_ne n] at z; exact .inr z
      · obtain ⟨z1, sc, z2, z3⟩ := w' rr hr
        have n : rr ≠ a := fun z => by rw [z] at hr; exact ca hr
        exact ⟨z1, sc, by rw [upd_ne n]; exact z2, z3⟩
    · left
      exact key H ob e hf Q q
    · cases zt
end
section
variable {X : Cx}
theorem ee_lcK {elt tg : Expr} {i : Nat} {x : Str} {px : Pos} {ifs : List Expr} {scope : Scope} {own : List (Str × Nat)} {pos : Pos} {g : TG} {dg : Dg} {js : List Nat} {tt : TT} {bt : Dt} {te : TE} {de : Dn} (hc : X.calm = true) (hN : X.N.Nodup) (hx : EE X (.Name x px) (tVar i) (dVar i))
    (ok : blkC X.N X.env.scope scope own = true) (hg : EGb X scope tg g dg js) (ht : ETb X scope ifs tt bt) (he : EEb X scope elt te de) (hj : ∀ k ∈ js, k ∈ own.map (fun z => z.2) := by decide) (hs : ∀ y, foldedSetIterable (.Name x px) X.env y = pure y := by intro _; rfl) :
    EE X (.ListComp elt [⟨tg, .Name x px, ifs, 0⟩] scope pos) (fun σ H Q => tLc (iKeys (tVar i)) g tt te (own.map (fun z => z.2)) σ H Q ∨ tLockE (tLc (iKeys (tVar i)) g tt te (own.map (fun z => z.2))) σ H Q) (dLc (dKeys i) dg bt de (own.map (fun z => z.2))) :=
  have h1 := pe_lc (elt := elt) (pos := pos) hc hN (pi_keys (tg := tg) hx.p) (blkOk_by ok) hg.p ht.p he.p hs
  ⟨pe_or h1 (pe_lock h1), sn_lcK hg.s hj ht.s he.s⟩
end
end Dl
end
section
set_option Elab.async false
set_option linter.all false
set_option maxRecDepth 100000
set_option maxHeartbeats 4000000
namespace Dl
open PySem PySem.Spec PyProof.Rows L2 StX

/-! new things, owned by one name -/
def SndF (K : Kx) (te : TE) (dn : Dn) : Prop := ∀ c I H σ ρ s d s', Ec K c I H σ ρ s → dn ρ s = some (d, s') →
  ∀ Q : VK, (∀ p I' H', Gr c I H I' H' → DW K c s' I' H' → OwOk K c I' H' p d → H p = none → Q (.ref p) H') → te σ H Q
structure EF (X : Cx) (e : Expr) (te : TE) (dn : Dn) : Prop where
  p : PE X e te
  s : SndF X.kx te dn
def dNewK : Dn := fun _ s => some (.dS [], s)
section
variable {K : Kx} {c : Option Addr} {I H I' H' I0 H0 : Hp} {σ : L2.St} {ρ : List Sl} {s s' : Tau} {p : Addr} {d : D}
theorem DW.ne (w : DW K c s I H) (h : H p = none) : c ≠ some p := fun z => by
  obtain ⟨_, sc, z2, _⟩ := w p z
  rw [h] at z2; cases z2
theorem sf_newK : SndF K tDNewK dNewK := fun c I H σ ρ s d s' e h Q q => by
  cases h
  intro p hp
  have hI := e.sub.free hp
  refine q p I _ ⟨.refl _, e.sub.updH hI, (Kp.refl _ _).updH hp, fun a z => .inl z⟩ (fun r hr => ?_) (.dS upd_same .nil hI (e.w.ne hp)) hp
  obtain ⟨z1, sc, z2, z3⟩ := e.w r hr
  exact ⟨z1, sc, by rw [upd_ne (ne_of_none z2 hp)]; exact z2, z3⟩
theorem sf_disp {trs : List (TE × TE)} {dr : Dp2} (h1 : SndP K trs dr) : SndF K (tDisp trs) (dDisp dr) := fun c I H σ ρ s d s' e h Q q => by
  obtain ⟨⟨es, s1⟩, ha, h⟩ := bind_some_of h
  split at h
  · rename_i hl
    cases h
    intro p hp
    have cD : c ≠ some p := e.w.ne hp
    have hI := e.sub.free hp
    have g0 : Gr c I H I (upd H p (.dK [])) := ⟨.refl _, e.sub.updH hI, (Kp.refl _ _).updH hp, fun a z => .inl z⟩
    have w0 : DW K c s I (upd H p (.dK [])) := fun r hr => by
      obtain ⟨z1, sc, z2, z3⟩ := e.w r hr
      exact ⟨z1, sc, by rw [upd_ne (ne_of_none z2 hp)]; exact z2, z3⟩
    refine h1 _ _ _ _ _ _ _ _ (e.grow g0 w0) ha _ fun kvs I1 H1 g1 w1 r1 => ?_
    have hp1 : H1 p = some (.dK []) := g1.kp.get cD upd_same nt_dK
    have hI1 : I1 p = none := by
      cases qq : I1 p with
      | none => rfl
      | some o =>
        rcases g1.nw p (by rw [qq]; simp) with z | z
        · exact absurd hI z
        · rw [upd_same] at z; cases z
    refine ⟨hp1, kvs, rfl, by rw [r1.length]; exact hl, q p I1 _ ⟨g0.s1.trans g1.s1, g1.s2.updH hI1, (g0.kp.trans g1.kp).updH hp, fun a z => ?_⟩ (fun r hr => ?_) (.dS upd_same (RepS.merge r1 .nil) hI1 cD) hp⟩
    · rcases g1.nw a z with z | z
      · exact .inl z
      · by_cases n : a = p
        · subst n; exact .inr hp
        · rw [upd_ne n] at z; exact .inr z
    · obtain ⟨z1, sc, z2, z3⟩ := w1 r hr
      have n : r ≠ p := fun z => cD (by rw [hr, z])
      exact ⟨z1, sc, by rw [upd_ne n]; exact z2, z3⟩
  · cases h
/-- a new list from a written one -/
theorem sf_lst {tx : TA} {ax : Da} (h1 : SndA K tx ax) : SndF K (tLst tx) (dLst ax) := fun c I H σ ρ s d s' e h Q q => by
  obtain ⟨⟨xs, s1⟩, ha, h⟩ := bind_some_of h
  split at h
  · rename_i hl
    have hl : xs.length ≤ 1000000 := hl
    cases h
    refine h1 _ _ _ _ _ _ _ _ e ha _ fun vs I1 H1 g1 w1 r1 => ⟨?_, fun p hp => ?_⟩
    · rw [r1.length]
      exact Nat.le_trans hl (by decide)
    · have hI := g1.s2.free hp
      have h0 : H p = none := g1.kp.there (w1.ne hp) hp
      refine q p I1 _ ⟨g1.s1, g1.s2.updH hI, g1.kp.updH h0, g1.nw⟩ (fun r hr => ?_) (.lst upd_same r1 hI (w1.ne hp)) h0
      obtain ⟨z1, sc, z2, z3⟩ := w1 r hr
      exact ⟨z1, sc, by rw [upd_ne (ne_of_none z2 hp)]; exact z2, z3⟩
  · cases h
/-- the owned thing is set -/
theorem Uq.setO {i : Nat} (e : Ec K c I H σ ρ s) (h : ∀ (j : Nat) (d : D), j ≠ i → σ[j]? = some (some (V.ref p)) → ρ[j]? = some (.ow d) → False) : Uq (σ.set i (some (.ref p))) (ρ.set i (.ow d)) := fun k j q d1 d2 hne h1 h2 h3 h4 => by
  by_cases hk : k = i
  · subst hk
    have nj : j ≠ k := fun z => hne z.symm
    rw [List.getElem?_set_ne (Ne.symm nj)] at h2 h4
    rw [List.getElem?_set] at h1
    simp only [if_true] at h1
    split at h1
    · cases h1; exact h j d2 nj h2 h4
    · cases h1
  · rw [List.getElem?_set_ne (Ne.symm hk)] at h1 h3
    by_cases hj : j = i
    · subst hj
      rw [List.getElem?_set] at h2
      simp only [if_true] at h2
      split at h2
      · cases h2; exact h k d1 hk h1 h3
      · cases h2
    · rw [List.getElem?_set_ne (Ne.symm hj)] at h2 h4
      exact e.uq k j q d1 d2 hne h1 h2 h3 h4
theorem EnvS.setO (e : EnvS K c I0 H0 I H σ ρ s) (o : OwOk K c I H p d) (n : ∀ (j : Nat) (d : D), σ[j]? = some (some (V.ref p)) → ρ[j]? = some (.ow d) → False) (h0 : H0 p = none) (i : Nat) : EnvS K c I0 H0 I H (σ.set i (some (.ref p))) (ρ.set i (.ow d)) s :=
  ⟨⟨e.env.sub, e.env.w, .set (.ow o) i e.env.sl, .setO e.env fun j d _ => n j d⟩, e.s0, e.kp, e.nw, fun j q d' h1 h2 => by
    by_cases z : j = i
    · subst z
      rw [List.getElem?_set] at h1
      simp only [if_true] at h1
      split at h1
      · cases h1; exact h0
      · cases h1
    · rw [List.getElem?_set_ne (Ne.symm z)] at h1 h2
      exact e.fr j q d' h1 h2, e.nc⟩
/-- what a slot owns stands in the heap -/
theorem OwOk.some_ (h : OwOk K c I H p d) : H p ≠ none := by
  cases h with
  | lst h1 => rw [h1]; simp
  | dS h1 => rw [h1]; simp
  | dsk h1 => rw [h1]; simp
theorem OwOk.fr (h : OwOk K c I H p d) : I p = none ∧ c ≠ some p := by
  cases h with
  | lst _ _ h3 h4 => exact ⟨h3, h4⟩
  | dS _ _ h3 h4 => exact ⟨h3, h4⟩
  | dsk _ _ _ _ h3 h4 => exact ⟨h3, h4⟩
theorem Ec.ow (e : Ec K c I H σ ρ s) {i : Nat} (h : ρ[i]? = some (.ow d)) : ∃ p, σ[i]? = some (some (.ref p)) ∧ OwOk K c I H p d := by
  obtain ⟨v, h1, h2⟩ := e.sl.get h
  cases h2 with
  | ow r => exact ⟨_, h1, r⟩
end
def dOwn (da : Dn) (i : Nat) : Ds := fun ρ s => (da ρ s).map fun p => (.nx (ρ.set i (.ow p.1)), p.2)
/-- what is owned is owned no more: from here on it stays as it is -/
def dFrz (i : Nat) (b : Ds) : Ds := fun ρ s => match ρ[i]? with
  | some (.ow d) => b (ρ.set i (.im d)) s
  | _ => none
def dRetO (i : Nat) : Ds := fun ρ s => match ρ[i]? with
  | some (.ow d) => some (.rt d true, s)
  | _ => none
def dDPut (i : Nat) (dk dv : Dn) : Ds := fun ρ s => (dv ρ s).bind fun v => (dk ρ v.2).bind fun k => match k.1, ρ[i]? with
  | .str x, some (.ow (.dS es)) => if es.length < 1000000 then some (.nx (ρ.set i (.ow (.dS (putD es x v.1)))), k.2) else none
  | _, _ => none
section
variable {K : Kx} {te ty tv : TE} {da dk dv : Dn} {t : TS} {b : Ds}
theorem ss_own (h1 : SndF K te da) (i : Nat) : SndS K (tAsg te (gName i)) (dOwn da i) := fun c I0 H0 I H σ ρ s o s' e h D q => by
  obtain ⟨⟨x, s1⟩, ha, h⟩ := map_some_of h
  cases h
  refine h1 _ _ _ _ _ _ _ _ e.env ha _ fun p I1 H1 g1 w1 o1 hp => ?_
  refine q _ _ _ ((e.grow g1 w1).setO o1 (fun j d a b => ?_) (e.old hp) i)
  obtain ⟨p2, hp2, o2⟩ := e.env.ow b
  rw [a] at hp2
  cases hp2
  exact o2.some_ hp
theorem EnvS.frz {c : Option Addr} {I0 H0 I H : Hp} {σ : L2.St} {ρ : List Sl} {s : Tau} {d : D} {i : Nat} (e : EnvS K c I0 H0 I H σ ρ s) (h : ρ[i]? = some (.ow d)) : ∃ I', Sb I I' ∧ EnvS K c I0 H0 I' H σ (ρ.set i (.im d)) s := by
  obtain ⟨p, hp, o⟩ := e.env.ow h
  obtain ⟨fI, cp⟩ := o.fr
  have h0 := e.fr i p d hp h
  have others : ∀ (ob : HO), ∀ {σ' : L2.St} {ρ' : List Sl}, (∀ (j : Nat) (d : D), σ'[j]? = some (some (V.ref p)) → ρ'[j]? = some (.ow d) → False) → SlL K c I H σ' ρ' → SlL K c (upd I p ob) H σ' ρ' := fun ob {σ' ρ'} n sl => by
    have sI : Sb I (upd I p ob) := fun a u z => by rw [upd_ne (ne_of_none z fI)]; exact z
    induction sl with
    | nil => exact .nil
    | @cons v x σ2 ρ2 a r ih =>
      refine .cons ?_ (ih fun j d z1 z2 => n (j + 1) d (by simpa using z1) (by simpa using z2))
      cases a with
      | un => exact .un _
      | im a => exact .im (a.mono sI)
      | @ow p2 d2 o2 =>
        have np : p2 ≠ p := fun z => n 0 d2 (by rw [z]; rfl) rfl
        refine .ow ?_
        cases o2 with
        | lst h1 h2 h3 h4 => exact .lst h1 (h2.mono sI) (by rw [upd_ne np]; exact h3) h4
        | dS h1 h2 h3 h4 => exact .dS h1 (h2.mono sI) (by rw [upd_ne np]; exact h3) h4
        | dsk h1 r1 r2 r3 h3 h4 => exact .dsk h1 (r1.mono sI) (r2.mono sI) (r3.mono sI) (by rw [upd_ne np]; exact h3) h4
  have fin : ∀ (ob : HO), H p = some ob → Rep K c (upd I p ob) (.ref p) d → ∃ I', Sb I I' ∧ EnvS K c I0 H0 I' H σ (ρ.set i (.im d)) s := fun ob hb r => by
    have sI : Sb I (upd I p ob) := fun a u z => by rw [upd_ne (ne_of_none z fI)]; exact z
    refine ⟨upd I p ob, sI, ⟨e.env.sub.updI fI hb, fun rr hr => ?_, ?_, ?_⟩, e.s0.trans sI, e.kp, fun a z => ?_, fun j q d' h1 h2 => ?_, e.nc⟩
    · obtain ⟨z1, sc, z2, z3⟩ := e.env.w rr hr
      have n : rr ≠ p := fun z => cp (by rw [hr, z])
      exact ⟨by rw [upd_ne n]; exact z1, sc, z2, sb_sqL sI z3⟩
    · have slot : SlL K c I H σ (ρ.set i .un) := by
        have := SlL.set (v := some (V.ref p)) (x := .un) (.un _) i e.env.sl
        have eq : σ.set i (some (V.ref p)) = σ := by
          apply List.ext_getElem?
          intro j
          by_cases z : i = j
          · subst z
            rw [List.getElem?_set]
            have hl := (List.getElem?_eq_some_iff.mp hp).1
            simp only [if_true, hl, hp]
          · rw [List.getElem?_set_ne z]
        rw [eq] at this
        exact this
      have s2 := others ob (σ' := σ) (ρ' := ρ.set i .un) (fun j d' z1 z2 => by
        by_cases z : i = j
        · subst z
          rw [List.getElem?_set] at z2
          simp only [if_true] at z2
          split at z2 <;> cases z2
        · rw [List.getElem?_set_ne z] at z2
          exact e.env.uq i j p d d' z hp z1 h z2) slot
      have s3 := SlL.set (v := some (V.ref p)) (x := .im d) (.im r) i s2
      have eq : σ.set i (some (V.ref p)) = σ := by
        apply List.ext_getElem?
        intro j
        by_cases z : i = j
        · subst z
          rw [List.getElem?_set]
          have hl := (List.getElem?_eq_some_iff.mp hp).1
          simp only [if_true, hl, hp]
        · rw [List.getElem?_set_ne z]
      rw [eq, List.set_set] at s3
      exact s3
    · have u := e.env.uq.setI (i := i) (v := some (V.ref p)) (x := .im d) (fun _ z => by cases z)
      have eq : σ.set i (some (V.ref p)) = σ := by
        apply List.ext_getElem?
        intro j
        by_cases z : i = j
        · subst z
          rw [List.getElem?_set]
          have hl := (List.getElem?_eq_some_iff.mp hp).1
          simp only [if_true, hl, hp]
        · rw [List.getElem?_set_ne z]
      rw [eq] at u
      exact u
    · by_cases n : a = p
      · subst n; exact .inr h0
      · rw [upd_ne n] at z; exact e.nw a z
    · by_cases z : i = j
      · subst z
        rw [List.getElem?_set] at h2
        simp only [if_true] at h2
        split at h2 <;> cases h2
      · rw [List.getElem?_set_ne z] at h2
        exact e.fr j q d' h1 h2
  cases o with
  | @lst vs ds h1 h2 h3 h4 =>
    have sI : Sb I (upd I p (.lst vs)) := fun a u z => by rw [upd_ne (ne_of_none z fI)]; exact z
    exact fin (.lst vs) h1 (.lst upd_same (h2.mono sI))
  | @dS vs ds h1 h2 h3 h4 =>
    have sI : Sb I (upd I p (.dK vs)) := fun a u z => by rw [upd_ne (ne_of_none z fI)]; exact z
    exact fin (.dK vs) h1 (.dS upd_same (h2.mono sI))
  | @dsk C dx vw vr va w r a h1 r1 r2 r3 h3 h4 =>
    have sI : Sb I (upd I p (.ins C dx [("_way", vw), ("_row", vr), ("_answer", va)])) := fun a u z => by rw [upd_ne (ne_of_none z fI)]; exact z
    exact fin _ h1 (.dsk upd_same (r1.mono sI) (r2.mono sI) (r3.mono sI))
theorem ss_frz {i : Nat} (h1 : SndS K t b) : SndS K t (dFrz i b) := fun c I0 H0 I H σ ρ s o s' e h D q => by
  unfold dFrz at h
  split at h
  · rename_i d hd
    obtain ⟨I', _, e'⟩ := e.frz hd
    exact h1 _ _ _ _ _ _ _ _ _ _ e' h D q
  · cases h
theorem ss_retO (i : Nat) : SndS K (tRet (tVar i)) (dRetO i) := fun c I0 H0 I H σ ρ s o s' e h D q => by
  unfold dRetO at h
  split at h
  · rename_i d hd
    cases h
    obtain ⟨p, hp, o⟩ := e.env.ow hd
    exact ⟨.ref p, hp, q p I H e.gr e.env.w o (e.fr i p d hp hd)⟩
  · cases h
theorem RepS.putL {c : Option Addr} {I : Hp} {kvs : List (Key × V)} {es : List (Str × D)} {k : Str} {v : V} {d : D} (r : RepS K c I kvs es) (rv : Rep K c I v d) : RepS K c I (putK kvs (.inr k) v) (putD es k d) := r.put rv
theorem ss_dput (i : Nat) (hk : SndE K ty dk) (hv : SndE K tv dv) : SndS K (sDPut (tVar i) ty tv) (dDPut i dk dv) := fun c I0 H0 I H σ ρ s o s' e h En q => by
  obtain ⟨⟨y, s1⟩, ha, h⟩ := bind_some_of h
  obtain ⟨⟨x, s2⟩, hb, h⟩ := bind_some_of h
  refine hv _ _ _ _ _ _ _ _ e.env ha _ fun v I1 H1 g1 w1 r1 => ?_
  have e1 := e.grow g1 w1
  split at h
  · rename_i k es hkk hs
    have hkk : x = .str k := hkk
    subst hkk
    split at h
    · rename_i hl
      cases h
      obtain ⟨p, hp, _⟩ := e1.env.ow hs
      refine ⟨.ref p, hp, hk _ _ _ _ _ _ _ _ e1.env hb _ fun u I2 H2 g2 w2 r2 => ?_⟩
      have e2 := e1.grow g2 w2
      obtain ⟨p2, hp2, o2⟩ := e2.env.ow hs
      rw [hp] at hp2
      cases hp2
      cases r2 with
      | str =>
        cases o2 with
        | @dS kvs _ h1 h2 h3 h4 =>
          refine ⟨p, _, rfl, .inl ⟨kvs, .inr k, h1, rfl, ?_, rfl⟩, ?_⟩
          · rw [h2.length]; exact Nat.lt_of_lt_of_le hl (by decide)
          · have rr := h2.putL (k := k) (r1.mono g2.s1)
            have h0 := e2.fr i p _ hp hs
            have others : ∀ a, I2 a = none → a ≠ p → upd H2 p (.dK (putK kvs (.inr k) v)) a = H2 a := fun a _ n => upd_ne n
            have eq : σ.set i (some (V.ref p)) = σ := by
              apply List.ext_getElem?
              intro j
              by_cases z : i = j
              · subst z
                rw [List.getElem?_set]
                have hl := (List.getElem?_eq_some_iff.mp hp).1
                simp only [if_true, hl, hp]
              · rw [List.getElem?_set_ne z]
            have sl2 : ∀ {σ' : L2.St} {ρ' : List Sl}, (∀ (j : Nat) (d : D), σ'[j]? = some (some (V.ref p)) → ρ'[j]? = some (.ow d) → False) → SlL K c I2 H2 σ' ρ' → SlL K c I2 (upd H2 p (.dK (putK kvs (.inr k) v))) σ' ρ' := fun {σ' ρ'} n sl => by
              induction sl with
              | nil => exact .nil
              | @cons v x σ2 ρ2 a r ih =>
                refine .cons ?_ (ih fun j d z1 z2 => n (j + 1) d (by simpa using z1) (by simpa using z2))
                cases a with
                | un => exact .un _
                | im a => exact .im a
                | @ow p2 d2 o2 =>
                  have np : p2 ≠ p := fun z => n 0 d2 (by rw [z]; rfl) rfl
                  refine .ow ?_
                  cases o2 with
                  | lst h1 h2 h3 h4 => exact .lst (by rw [upd_ne np]; exact h1) h2 h3 h4
                  | dS h1 h2 h3 h4 => exact .dS (by rw [upd_ne np]; exact h1) h2 h3 h4
                  | dsk h1 r1 r2 r3 h3 h4 => exact .dsk (by rw [upd_ne np]; exact h1) r1 r2 r3 h3 h4
            have slot := SlL.set (v := some (V.ref p)) (x := .un) (.un _) i e2.env.sl
            rw [eq] at slot
            have s2' := sl2 (σ' := σ) (ρ' := ρ.set i .un) (fun j d' z1 z2 => by
              by_cases z : i = j
              · subst z
                rw [List.getElem?_set] at z2
                simp only [if_true] at z2
                split at z2 <;> cases z2
              · rw [List.getElem?_set_ne z] at z2
                exact e2.env.uq i j p _ d' z hp z1 hs z2) slot
            have s3 := SlL.set (v := some (V.ref p)) (x := .ow (.dS (putD es k y))) (.ow (.dS upd_same rr h3 h4)) i s2'
            rw [eq, List.set_set] at s3
            refine q _ I2 _ ⟨⟨e2.env.sub.updH h3, fun rr hr => ?_, s3, ?_⟩, e2.s0, e2.kp.updH h0, e2.nw, fun j q' d' h1' h2' => ?_, e2.nc⟩
            · obtain ⟨z1, sc, z2, z3⟩ := e2.env.w rr hr
              have n : rr ≠ p := fun z => h4 (by rw [hr, z])
              exact ⟨z1, sc, by rw [upd_ne n]; exact z2, z3⟩
            · have u := Uq.setO (i := i) (p := p) (d := .dS (putD es k y)) e2.env (fun j d' nj z1 z2 => e2.env.uq i j p _ d' (Ne.symm nj) hp z1 hs z2)
              rw [eq] at u
              exact u
            · by_cases z : i = j
              · subst z
                rw [hp] at h1'; cases h1'
                exact h0
              · rw [List.getElem?_set_ne z] at h2'
                exact e2.fr j q' d' h1' h2'
    · cases h
  · cases h
end
end Dl
end
section
set_option Elab.async false
set_option linter.all false
set_option maxRecDepth 100000
set_option maxHeartbeats 4000000
namespace HT
open PySem PySem.Spec PyProof.Rows
section
variable {prog : Program} {w : World} {A : Around} {E : Value → Shared → Prop} {s : Shared}
theorem sliceApplied_rev {sl : Addr} {vl vu vs : Value} {n : Nat} {Q : Int × Int × Nat → Shared → Prop} (hs : s.heap.IsSliceOf sl vl vu vs) (pl : IsPart vl none) (pu : IsPart vu none) (ps : IsPart vs (some (-1)))
    (h : Q ((n : Int) - 1, -1, n) s) : wpAny (model prog w) A (Builtin.Slice.sliceApplied (.ref sl) (pure (n : Int))) Q E s := by
  obtain ⟨os, hos, hcs, hds⟩ := id hs
  unfold Builtin.Slice.sliceApplied Builtin.Slice.sliceFields
  refine wpAny_bind (wpAny_bind (wpAny_field hos hds (x := vl) rfl (wpAny_bind (wpAny_field hos hds (x := vu) rfl (wpAny_bind (wpAny_field hos hds (x := vs) rfl (wpAny_pure ?_)))))))
  refine wpAny_bind (slicePart_ ps ?_)
  show wpAny _ _ (if ((-1 : Int) == 0) = true then _ else _) _ _ s
  rw [if_neg (by decide)]
  refine wpAny_bind (slicePart_ pl (wpAny_bind (slicePart_ pu (wpAny_bind (wpAny_pure ?_)))))
  show wpAny _ _ (pure ((n : Int) - 1, (-1 : Int), Builtin.Slice.slicePlaces ((n : Int) - 1) (-1) (-1))) _ _ s
  have e : Builtin.Slice.slicePlaces ((n : Int) - 1) (-1) (-1) = n := by
    unfold Builtin.Slice.slicePlaces
    by_cases h0 : n = 0
    · subst h0; decide
    · simp only [show ¬ ((-1 : Int) > 0) by decide, if_false]
      split
      · rw [show (- -1 : Int) = 1 by decide, Int.ediv_one]; omega
      · omega
  rw [e]
  exact wpAny_pure h
theorem pick_rev (xs : Array Value) : ((List.range xs.size).filterMap fun (m : Nat) => xs[(((xs.size : Int) - 1) + (m : Int) * -1).toNat]?).toArray = xs.toList.reverse.toArray := by
  have e : ((List.range xs.size).filterMap fun (m : Nat) => xs[(((xs.size : Int) - 1) + (m : Int) * -1).toNat]?) = ((List.range xs.size).map fun k => xs.size - 1 - k).filterMap (xs[·]?) := by
    rw [List.filterMap_map]
    have key : ∀ l : List Nat, (∀ m ∈ l, m < xs.size) → (l.filterMap fun (m : Nat) => xs[(((xs.size : Int) - 1) + (m : Int) * -1).toNat]?) = l.filterMap ((fun k => xs[k]?) ∘ fun k => xs.size - 1 - k) := fun l => by
      induction l with
      | nil => exact fun _ => rfl
      | cons m l ih =>
        intro h
        have hm := h m List.mem_cons_self
        rw [List.filterMap_cons, List.filterMap_cons, ih fun z hz => h z (List.mem_cons_of_mem _ hz)]
        have e2 : (((xs.size : Int) - 1) + (m : Int) * -1).toNat = xs.size - 1 - m := by omega
        rw [e2]
        rfl
    exact key _ fun m hm => List.mem_range.mp hm
  rw [e, PySem.W.krv_range, List.filterMap_reverse, PySem.W.krv_all]
theorem getItem_tuple_rev {t sl : Addr} {items : Array Value} {vl vu vs : Value} {Q : Value → Shared → Prop} (ht : IsTup s.heap t items) (hs : s.heap.IsSliceOf sl vl vu vs) (pl : IsPart vl none) (pu : IsPart vu none) (ps : IsPart vs (some (-1)))
    (h : Q (.ref s.heap.objs.size) { s with heap := s.heap.push { cls := .type "tuple", data := .seq items.toList.reverse.toArray } })
    (hsz : items.size ≤ sizeLine) : wpAny (model prog w) A (getItem (.ref t) (.ref sl)) Q E s := by
  have htake : sizeOk (.seq items.toList.reverse.toArray) := by
    show items.toList.reverse.toArray.size ≤ sizeLine
    rw [List.size_toArray, List.length_reverse, Array.length_toList]
    exact hsz
  obtain ⟨os, hos, hcs, hds⟩ := id hs
  have hTs : s.TypeIs (.ref sl) "slice" := ⟨os, hos, hcs⟩
  unfold getItem
  try with_reducible refine wpAny_holding ?_
  first | refine wpAny_bind (wpAny_pure ?_) | skip
  refine wpAny_bind (wpAny_sequenceKey ht.typeIs (by decide) ?_)
  refine wpAny_bind (wpAny_callSpecial?_slot (name := Str.ofString "__getitem__") ht.typeIs PyProof.Rows.slot_tuple_getitem
    (wpAny_call_entry PyProof.Rows.slot_tuple_getitem ht.typeIs entry_tuple_getitem ?_ (args_tuple_getitem _ _)))
  show wpAny _ _ (Builtin.Tuple.tupleItemsOf (.ref t) >>= _) _ _ s
  refine wpAny_bind (tupleItemsOf_ ht ?_)
  refine wpAny_bind (wpAny_typeOf hTs ?_)
  rw [if_pos (by decide)]
  refine wpAny_bind (sliceApplied_rev hs pl pu ps ?_)
  have hno : ¬ ((((items.size : Int) - 1) == 0 && (-1 : Int) == 1 && items.size == items.size) = true) := by
    intro q
    rw [Bool.and_eq_true, Bool.and_eq_true] at q
    exact absurd q.1.2 (by decide)
  show wpAny _ _ (if (((items.size : Int) - 1) == 0 && (-1 : Int) == 1 && items.size == items.size) = true then _ else _) _ _ s
  rw [if_neg hno, pick_rev]
  first
    | exact wpAny_bind (m := Builtin.Tuple.tupleExact _) (wpAny_newObj_type (wpAny_pure ⟨_, rfl, wpAny_pure h⟩) htake)
    | exact wpAny_bind (m := Builtin.Tuple.tupleExact _) (wpAny_newObj_type (wpAny_bind (wpAny_pure (wpAny_pure ⟨_, rfl, wpAny_pure h⟩))) htake)
    | exact wpAny_bind (wpAny_bind (m := Builtin.Tuple.tupleExact _) (wpAny_newObj_type (wpAny_pure (wpAny_pure ⟨_, rfl, wpAny_pure h⟩)) htake))
    | exact wpAny_bind (wpAny_bind (m := Builtin.Tuple.tupleExact _) (wpAny_newObj_type (wpAny_pure ⟨_, rfl, wpAny_pure h⟩) htake))
end
end HT
namespace Dl
open PySem PySem.Spec PyProof.Rows L2 StX
/-! xs[::-1] of a tuple -/
def tRevT (K : Kx) (te : TE) : TE := fun σ H Q => te σ H fun x H1 => ∃ a xs, x = .ref a ∧ SqT K H1 a xs ∧ ∀ (p : Addr) (o : Obj), H1 p = none → TupO o → Q (.ref p) (upd H1 p (.frz o (.tup xs.reverse)))
theorem pe_revT {X : Cx} {e : Expr} {te : TE} {k : Nat} {p1 p2 p3 pos : Pos} (he : PE X e te) : PE X (.Subscript e (.Slice none none (some (.UnaryOp .USub (.Constant (.int 1) k p1) p2)) p3) pos) (tRevT X.kx te) := by
  refine ⟨fun pins s σ H Q I h => ?_⟩
  refine Subscript_ (thn (he.run pins s σ H _ I h) fun v s1 ⟨x, H1, I1, r1, q1⟩ => ?_)
  obtain ⟨a, xs, ex, hx, q⟩ := q1
  subst ex
  cases r1
  have hst : PO X (some (.UnaryOp .USub (.Constant (.int 1) k p1) p2)) (tPart (tUn (rU fun i => .int (-i)) (tC (.int 1)))) := po_some (pe_un un_neg pe_int)
  refine wpAny_Slice (thn (po_none.run pins s1 σ H1 (fun o H2 => o = none ∧ H2 = H1) I1 ⟨rfl, rfl⟩) fun vl s2 ⟨l, H2, I2, pl, el, e2⟩ => ?_)
  subst el e2
  refine thn (po_none.run pins s2 σ H2 (fun o H3 => o = none ∧ H3 = H2) I2 ⟨rfl, rfl⟩) fun vu s3 ⟨u, H3, I3, pu, eu, e3⟩ => ?_
  subst eu e3
  refine thn (hst.run pins s3 σ H3 (fun o H4 => o = some (-1) ∧ H4 = H3) I3 ⟨1, rfl, -1, rfl, rfl, rfl⟩) fun vs s4 ⟨o, H4, I4, ps, eo, e4⟩ => ?_
  subst eo e4
  have I5 : Inv X pins σ H4 { s4 with heap := s4.heap.push { cls := .type "slice", data := .fields #[vl, vu, vs] } } := I4.kept (t' := s4.toks) fun b ob q => Heap.get?_push_of_some _ q
  obtain ⟨its, r, ht, hz⟩ := I5.tuple hx
  have hlen : its.toArray.size = xs.length := by rw [List.size_toArray]; exact r.length.symm
  show wpAny (model X.prog X.w) X.A (subscriptTail e (.Slice none none (some (.UnaryOp .USub (.Constant (.int 1) k p1) p2)) p3) (.ref a) (.ref s4.heap.objs.size)) (EP X pins σ Q) X.xe { s4 with heap := s4.heap.push { cls := .type "slice", data := .fields #[vl, vu, vs] } }
  refine tail_any (ops := [.ref a, .ref s4.heap.objs.size]) ht.typeIs (PyProof.Rows.slot_tuple_getitem.lookup) ?_ (by with_unfolding_all rfl)
  refine HT.getItem_tuple_rev ht (Heap.IsSliceOf.new _ vl vu vs) pl pu ps ?_ (by rw [hlen]; exact hz)
  have hg : ((s4.heap.push { cls := .type "slice", data := .fields #[vl, vu, vs] }).push { cls := .type "tuple", data := .seq its.toArray.toList.reverse.toArray }).get? (s4.heap.push { cls := .type "slice", data := .fields #[vl, vu, vs] }).objs.size = some { cls := .type "tuple", data := .seq its.toArray.toList.reverse.toArray } := Heap.get?_push_size _ rfl
  refine ⟨.ref _, _, I5.laid (t' := s4.toks) (o := .frz { cls := .type "tuple", data := .seq its.toArray.toList.reverse.toArray } (.tup xs.reverse)) (fun b ob q => Heap.get?_push_of_some _ q) (Nat.le_refl _) ⟨hg, by rw [List.length_reverse]; exact hz, _, r.reverse, _, hg, rfl, _, rfl⟩, rfl, q _ _ (I5.hok.fresh (Nat.le_refl _)) ⟨rfl, rfl⟩⟩
def revD : D → Option D
  | .lst xs => some (.lst xs.reverse)
  | d => d.asT.map fun xs => .tup xs.reverse
theorem RepL.reverse {K : Kx} {c : Option Addr} {I : Hp} : ∀ {vs : List V} {ds : List D}, RepL K c I vs ds → RepL K c I vs.reverse ds.reverse
  | _, _, .nil => .nil
  | _, _, .cons a r => by
    rw [List.reverse_cons, List.reverse_cons]
    exact (RepL.reverse r).app (.one a)
theorem sn_rev {K : Kx} {te : TE} {da : Dn} (h1 : SndE K te da) : SndE K (fun σ H Q => tRevL K te σ H Q ∨ tRevT K te σ H Q) (dUn revD da) := fun c I H σ ρ s d s' e h Q q => by
  obtain ⟨⟨x, s1⟩, h2, h⟩ := bind_some_of h
  obtain ⟨z, h3, h⟩ := map_some_of h
  cases h
  have h3 : revD x = some _ := h3
  unfold revD at h3
  split at h3
  · cases h3
    left
    refine h1 _ _ _ _ _ _ _ _ e h2 _ fun v I1 H1 g1 w1 r1 => ?_
    cases r1 with
    | @lst a vs _ hI r =>
      refine ⟨a, vs, rfl, .of (g1.s2.lst hI), fun p hp => ?_⟩
      have g := Gr.new (o := .lst vs.reverse) g1.s2 hp
      exact q _ _ _ (g1.tr w1 g.up) (w1.gr g) (.lst upd_same (r.reverse.mono g.s1))
  · obtain ⟨xs, h4, rfl⟩ := map_some_of h3
    right
    refine h1 _ _ _ _ _ _ _ _ e h2 _ fun v I1 H1 g1 w1 r1 => ?_
    obtain ⟨a, vs, rfl, ha, ra⟩ := r1.asT h4
    refine ⟨a, vs, rfl, g1.s2.sqT ha, fun p o hp ho => ?_⟩
    have g := Gr.new (o := .frz o (.tup vs.reverse)) g1.s2 hp
    exact q _ _ _ (g1.tr w1 g.up) (w1.gr g) (.tup upd_same ho (ra.reverse.mono g.s1))
section
variable {X : Cx}
theorem ee_rev {e : Expr} {te : TE} {da : Dn} {k : Nat} {p1 p2 p3 pos : Pos} (he : EE X e te da) : EE X (.Subscript e (.Slice none none (some (.UnaryOp .USub (.Constant (.int 1) k p1) p2)) p3) pos) (fun σ H Q => tRevL X.kx te σ H Q ∨ tRevT X.kx te σ H Q) (dUn revD da) :=
  ⟨pe_or (pe_revL he.p) (pe_revT he.p), sn_rev he.s⟩
end
/-! x is True -/
def isBD : D → D → Option D
  | .bl a, .bl b => some (.bl (decide (a = b)))
  | _, _ => none
def notBD : D → D → Option D
  | .bl a, .bl b => some (.bl (!decide (a = b)))
  | _, _ => none
theorem s2_isB {K : Kx} : Snd2 K rIsB isBD := fun c I H x y d e z s rx ry h Q q => by
  unfold isBD at h
  split at h
  · cases h; cases rx; cases ry
    exact ⟨_, _, rfl, rfl, q.val s (.bl _)⟩
  · cases h
theorem s2_notB {K : Kx} : Snd2 K rNotB notBD := fun c I H x y d e z s rx ry h Q q => by
  unfold notBD at h
  split at h
  · cases h; cases rx; cases ry
    exact ⟨_, _, rfl, rfl, q.val s (.bl _)⟩
  · cases h
theorem cm_isB {X : Cx} : CM X .Is rIsB isBD := ⟨op_isBl, s2_isB⟩
theorem cm_notB {X : Cx} : CM X .IsNot rNotB notBD := ⟨op_notBl, s2_notB⟩
/-! owned things: statements -/
def dParO (i j : Nat) (da db : Dn) : Ds := fun ρ s => (da ρ s).bind fun p => (db ρ p.2).map fun q => (.nx ((ρ.set i (.ow p.1)).set j (.im q.1)), q.2)
theorem ss_parO {K : Kx} {t1 t2 : TE} {da db : Dn} (i j : Nat) (h1 : SndF K t1 da) (h2 : SndE K t2 db) : SndS K (tPar i j (tCons t1 (tCons t2 tNil))) (dParO i j da db) := fun c I0 H0 I H σ ρ s o s' e h D q => by
  obtain ⟨⟨x, s1⟩, ha, h⟩ := bind_some_of h
  obtain ⟨⟨y, s2⟩, hb, h⟩ := map_some_of h
  cases h
  refine h1 _ _ _ _ _ _ _ _ e.env ha _ fun p I1 H1 g1 w1 o1 hp => ?_
  have e1 := e.grow g1 w1
  refine h2 _ _ _ _ _ _ _ _ e1.env hb _ fun v I2 H2 g2 w2 r2 => ?_
  refine ⟨_, _, rfl, q _ _ _ (((e1.grow g2 w2).setO (o1.grow g2) (fun k d a b => ?_) (e.old hp) i).setI r2 j)⟩
  obtain ⟨p2, hp2, o2⟩ := e.env.ow b
  rw [a] at hp2
  cases hp2
  exact o2.some_ hp
section
variable {X : Cx} {e e1 e2 k v : Expr} {te ty tv t1 t2 : TE} {da dk dv db : Dn} {sts : List Stmt} {t : TS} {b : Ds} {pos pos' : Pos}
theorem ef_newK : EF X (.Dict [] [] pos) tDNewK dNewK := ⟨pe_dnewK, sf_newK⟩
theorem ef_disp {keys : List (Option Expr)} {values : List Expr} {trs : List (TE × TE)} {dp : Dp2} (h : EP2 X pos keys values trs dp) (hall : keys.all (fun z => z.isSome) = true := by rfl) (hl : keys.length = values.length := by rfl) (h0 : keys ≠ [] := by exact fun z => by cases z) (h15 : keys.length ≤ 15 := by decide) :
    EF X (.Dict keys values pos) (tDisp trs) (dDisp dp) := ⟨pe_disp h.p hall hl h0 h15, sf_disp h.s⟩
theorem es_own {i : Nat} {x : Str} (hN : X.N.Nodup) (hi : X.N[i]? = some x) (hx : Loc X.env.scope x) (he : EF X e te da) (hs : swapsWith e (some (.Name x pos')) pos.line X.env = pure false := by rfl) (hf : X.fn x = true ∨ X.env.scope.names.lookup x = some .local := by first | exact .inl rfl | exact .inr rfl) :
    ES X (.Assign [.Name x pos'] e pos) (tAsg te (gName i)) (dOwn da i) := ⟨ps_set hN hi hx he.p hs hf, ss_own he.s i⟩
theorem es_dput {j : Nat} {px ppos : Pos} {x : Str} (i : Nat) (hr : Room j X.A) (hx : EE X (.Name x px) (tVar i) (dVar i)) (hk : EE X k ty dk) (hv : EE X v tv dv) (hs : swapsWith v (some (.Subscript (.Name x px) k ppos)) pos.line X.env = pure false := by rfl) :
    ES X (.Assign [.Subscript (.Name x px) k ppos] v pos) (sDPut (tVar i) ty tv) (dDPut i dk dv) := ⟨ps_dput (hu_of hr) hx.p hk.p hv.p hs, ss_dput i hk.s hv.s⟩
theorem ess_frz (i : Nat) (h : ESs X sts t b) : ESs X sts t (dFrz i b) := ⟨h.p, ss_frz h.s⟩
theorem es_retO {x : Str} {px : Pos} (i : Nat) (hx : EE X (.Name x px) (tVar i) (dVar i)) : ES X (.Return (some (.Name x px)) pos) (tRet (tVar i)) (dRetO i) := ⟨ps_ret hx.p, ss_retO i⟩
theorem es_parO {i j : Nat} {x y : Str} {px py pt pt2 : Pos} {kt k2 : Nat} (hc : X.calm = true) (hN : X.N.Nodup) (hi : X.N[i]? = some x) (hj : X.N[j]? = some y) (hij : i ≠ j)
    (hx : X.env.scope.names.lookup x = some .local) (hy : X.env.scope.names.lookup y = some .local) (h1 : EF X e1 t1 da) (h2 : EE X e2 t2 db)
    (hw : swappedStores [.Tuple [.Name x px, .Name y py] kt pt] (.Tuple [e1, e2] k2 pt2) X.env = pure (some [x, y]) := by rfl)
    (hs : swapsWithSole [.Tuple [.Name x px, .Name y py] kt pt] (.Tuple [e1, e2] k2 pt2) pos.line X.env = pure false := by rfl) (hs1 : starEach [e1, e2] X.env = (false, eval e1 X.env) :: starEach [e2] X.env := by rfl) (hs2 : starEach [e2] X.env = (false, eval e2 X.env) :: starEach [] X.env := by rfl) :
    ES X (.Assign [.Tuple [.Name x px, .Name y py] kt pt] (.Tuple [e1, e2] k2 pt2) pos) (tPar i j (tCons t1 (tCons t2 tNil))) (dParO i j da db) := ⟨ps_par hc hN hi hj hij hx hy (pa_cons h1.p (pa_cons h2.p pa_nil hs2) hs1) hw hs, ss_parO i j h1.s h2.s⟩
theorem es_par3 {i j l : Nat} {x y z : Str} {a b c : Expr} {tx : TA} {ax : Da} {px py pz pt pos pt2 : Pos} {kt k2 : Nat} (hc : X.calm = true) (hN : X.N.Nodup) (hi : X.N[i]? = some x) (hj : X.N[j]? = some y) (hl : X.N[l]? = some z) (hij : i ≠ j) (hil : i ≠ l) (hjl : j ≠ l)
    (hx : X.env.scope.names.lookup x = some .local) (hy : X.env.scope.names.lookup y = some .local) (hz : X.env.scope.names.lookup z = some .local) (ha : EA X [a, b, c] tx ax)
    (hw : swappedStores [.Tuple [.Name x px, .Name y py, .Name z pz] kt pt] (.Tuple [a, b, c] k2 pt2) X.env = pure (some [x, y, z]) := by rfl)
    (hs : swapsWithSole [.Tuple [.Name x px, .Name y py, .Name z pz] kt pt] (.Tuple [a, b, c] k2 pt2) pos.line X.env = pure false := by rfl) :
    ES X (.Assign [.Tuple [.Name x px, .Name y py, .Name z pz] kt pt] (.Tuple [a, b, c] k2 pt2) pos) (tPar3 i j l tx) (dPar3 i j l ax) := ⟨ps_par3 hc hN hi hj hl hij hil hjl hx hy hz ha.p hw hs, ss_par3 i j l ha.s⟩
theorem ee_dget2 {j : Nat} {o e f : Expr} {apos cpos : Pos} {td ty tx : TE} {dd dy dx : Dn} (hr : Room j X.A) (ho : EE X o td dd) (he : EE X e ty dy) (hf : EE X f tx dx) (m : M2 X o "get" apos e f cpos := by exact ⟨rfl, by rfl, by decide, rfl⟩) :
    EE X (.Call (.Attribute o "get" apos) [e, f] [] cpos) (tDGet2 td ty tx) (dGet2 dd dy dx) := ⟨pe_dget2 (hu_of hr) ho.p he.p hf.p m, sn_dget2 ho.s he.s hf.s⟩
end
end Dl
end
section
set_option Elab.async false
set_option linter.all false
set_option maxRecDepth 100000
set_option maxHeartbeats 4000000
namespace Dl
open PySem PySem.Spec PyProof.Rows L2 StX
/-! sum of a tuple of ints -/
section
variable {prog : Program} {w : World} {A : Around} {E : Value → Shared → Prop} {s : Shared}
theorem sum_tup_items {t : Addr} {xs : Array (Int × Tok)} {Q : Value → Shared → Prop} (hh : A.handled = none) (ht : s.heap.IsTuple t (intItems xs))
    (h : ∀ h' tk t', (∀ b o, s.heap.get? b = some o → h'.get? b = some o) → Q (.int (preSum (numAt xs) xs.size) t') { s with heap := h', toks := tk }) : wpAny (model prog w) A (call (.builtin "sum") [.ref t]) Q E s := by
  have hlt : t < s.heap.objs.size := by obtain ⟨_, e, _⟩ := ht; exact Heap.lt_size e
  have hne : t ≠ s.heap.objs.size := Nat.ne_of_lt hlt
  refine call_sum_walkG (wpAny_pyIter_tuple ht ?_)
  refine ⟨_, _, _, _, _, _, numAt xs, rfl, Walks.tuple (A := A.in1) hh _ t hne (intItems xs), ⟨⟨_, Heap.get?_push_size _ rfl, rfl, rfl⟩, ?_⟩, fun b hb => ?_, (fun _ _ => intItems_at), fun h' tk t' hk => ?_⟩
  · obtain ⟨o, e, r⟩ := ht
    exact ⟨o, Heap.get?_push_of_some _ e, r⟩
  · show b < (s.heap.push _).objs.size
    rw [Heap.size_push]
    rcases List.mem_cons.mp hb with rfl | hb
    · exact Nat.lt_succ_self _
    · rw [List.mem_singleton.mp hb]
      exact Nat.lt_succ_of_lt hlt
  · have := h h' tk t' fun b o e => hk b o (fun hm => by
      rw [List.mem_singleton.mp hm] at e
      exact Nat.lt_irrefl _ (Heap.lt_size e)) (Heap.get?_push_of_some _ e)
    simpa [intItems] using this
theorem sum_tup_raw {t : Addr} {its : List Value} {ns : List Int} {Q : Value → Shared → Prop} (hh : A.handled = none) (ht : s.heap.IsTuple t its.toArray) (hi : IntsAre its ns)
    (h : ∀ h' tk t', (∀ b o, s.heap.get? b = some o → h'.get? b = some o) → Q (.int ns.sum t') { s with heap := h', toks := tk }) : wpAny (model prog w) A (call (.builtin "sum") [.ref t]) Q E s := by
  obtain ⟨xs, e⟩ := hi.allInts.items
  have hn : numsOf (intItems xs).toList = ns := by rw [← e]; exact hi.numsOf
  rw [nums_intItems] at hn
  rw [e] at ht
  refine sum_tup_items hh ht fun h' tk t' hk => ?_
  have := h h' tk t' hk
  rw [preSum_eq, List.take_of_length_le (by simp), hn]; exact this
end
def rSumA (K : Kx) : List V → Hp → VK → Prop := fun vs H Q => ∃ (a : Addr) (ns : List Int), vs = [V.ref a] ∧ (SqL K H a (ns.map V.int) ∨ SqT K H a (ns.map V.int)) ∧ Q (.int ns.sum) H
theorem cr_sumA {X : Cx} (hc : X.calm = true) : CallR X (.builtin "sum") (rSumA X.kx) := by
  intro pins s σ H vs us Q I r h
  obtain ⟨a, ns, rfl, hs | hs, q⟩ := h
  · exact cr_sum hc pins s σ H _ us Q I r ⟨a, ns, rfl, hs, q⟩
  · obtain ⟨its, rv, ht, _⟩ := I.tuple hs
    rw [Vals.ref1 r]
    exact sum_tup_raw (I.ok.hd hc) ht rv.ints fun h' tk t' hk => ⟨.int _, H, I.kept hk, ⟨_, rfl⟩, q⟩
def sumAD : List D → Option D
  | [d] => d.its.bind fun xs => (intsOf xs).map fun bs => .int bs.sum
  | _ => none
theorem sl_sumA {K : Kx} : SndL K (rSumA K) sumAD := fun c I H xs ds z s rx h Q q => by
  unfold sumAD at h
  split at h
  · rename_i d
    obtain ⟨ys, h1, h⟩ := bind_some_of h
    obtain ⟨bs, h2, rfl⟩ := map_some_of h
    cases rx with
    | cons a r =>
      cases r
      obtain ⟨p, vs, rfl, hp, rv⟩ := a.its h1
      have e := intsOf_rep rv h2
      subst e
      rcases hp with hp | hp
      · exact ⟨p, bs, rfl, .inr (s.sqT hp), q.val s (.int _)⟩
      · exact ⟨p, bs, rfl, .inl (s.sqL hp), q.val s (.int _)⟩
  · cases h
/-! a op b op c op d -/
def tChain3 (r r' r'' : R2) (ta tb tc td : TE) : TE := fun σ H Q => ta σ H fun x H1 => tb σ H1 fun y H2 => r x y H2 fun z H3 => ∃ k, z = .bl k ∧
  (if k = true then tc σ H3 fun w H4 => r' y w H4 fun z' H5 => ∃ k', z' = .bl k' ∧ (if k' = true then td σ H5 fun u H6 => r'' w u H6 Q else Q (.bl false) H5) else Q (.bl false) H3)
section
variable {X : Cx} {a b c d : Expr} {ta tb tc td : TE} {da db dc dd : Dn} {pos : Pos}
theorem pe_chain3 {op op' op'' : CmpOp} {r r' r'' : R2} (ho : OpR X (compareOp op) r) (ho' : OpR X (compareOp op') r') (ho'' : OpR X (compareOp op'') r'') (ha : PE X a ta) (hb : PE X b tb) (hc : PE X c tc) (hd : PE X d td)
    (hm : lastMarks [op, op', op''] [b, c, d] = false := by with_unfolding_all rfl) : PE X (.Compare a [op, op', op''] [b, c, d] pos) (tChain3 r r' r'' ta tb tc td) := by
  refine ⟨fun pins s σ H Q I h => ?_⟩
  refine Compare_chain (thn (ha.run pins s σ H _ I h) fun v s1 ⟨x, H1, I1, r1, q1⟩ => chain_link (thn (hb.run pins s1 σ H1 _ I1 q1) fun u s2 ⟨y, H2, I2, r2, q2⟩ =>
    thn (ho pins s2 σ H2 x y v u _ I2 r1 r2 q2) fun d s3 ⟨z, H3, I3, r3, k, e, q3⟩ => ?_)) hm
  subst e
  cases r3
  refine wpAny_truthy_bool ?_
  cases k with
  | false => exact ite_ff ⟨.bl false, H3, I3, rfl, q3⟩
  | true =>
    refine ite_tt (chain_link (thn (hc.run pins s3 σ H3 _ I3 q3) fun w' s4 ⟨z', H4, I4, r4, q4⟩ => thn (ho' pins s4 σ H4 y z' u w' _ I4 r2 r4 q4) fun d' s5 ⟨z2, H5, I5, r5, k2, e2, q5⟩ => ?_))
    subst e2
    cases r5
    refine wpAny_truthy_bool ?_
    cases k2 with
    | false => exact ite_ff ⟨.bl false, H5, I5, rfl, q5⟩
    | true => exact ite_tt (chain_last (thn (hd.run pins s5 σ H5 _ I5 q5) fun w2 s6 ⟨z3, H6, I6, r6, q6⟩ => ho'' pins s6 σ H6 z' z3 w' w2 Q I6 r4 r6 q6))
end
def dChain3 (f g h : D → D → Option D) (da db dc dd : Dn) : Dn := fun ρ s => (da ρ s).bind fun p => (db ρ p.2).bind fun q => (f p.1 q.1).bind fun z => match z with
  | .bl true => (dc ρ q.2).bind fun r => (g q.1 r.1).bind fun z => (match z with
    | .bl true => (dd ρ r.2).bind fun t => (h r.1 t.1).map fun z => (z, t.2)
    | .bl false => some (.bl false, r.2)
    | _ => none)
  | .bl false => some (.bl false, q.2)
  | _ => none
theorem sn_chain3 {K : Kx} {ta tb tc td : TE} {da db dc dd : Dn} {r r' r'' : R2} {f g f3 : D → D → Option D} (h1 : SndE K ta da) (h2 : SndE K tb db) (h3 : SndE K tc dc) (h4 : SndE K td dd) (hr : Snd2 K r f) (hr' : Snd2 K r' g) (hr'' : Snd2 K r'' f3) :
    SndE K (tChain3 r r' r'' ta tb tc td) (dChain3 f g f3 da db dc dd) := fun c I H σ ρ s d s' e h Q q => by
  obtain ⟨⟨x, s1⟩, ha, h⟩ := bind_some_of h
  obtain ⟨⟨y, s2⟩, hb, h⟩ := bind_some_of h
  obtain ⟨z, hz, h⟩ := bind_some_of h
  refine h1 _ _ _ _ _ _ _ _ e ha _ fun v I1 H1 g1 w1 r1 => ?_
  have e1 := e.grow g1 w1
  refine h2 _ _ _ _ _ _ _ _ e1 hb _ fun u I2 H2 g2 w2 r2 => ?_
  have g12 := g1.tr w1 g2
  have e2 := e.grow g12 w2
  refine hr _ _ _ _ _ _ _ _ g2.s2 (r1.mono g2.s1) r2 hz _ fun b I3 H3 g3 rb => ?_
  have w3 := w2.gr g3
  have g13 := g12.tr w2 (g3.up (c := c))
  have e3 := e.grow g13 w3
  split at h
  · cases rb
    refine ⟨true, rfl, ?_⟩
    rw [if_pos rfl]
    obtain ⟨⟨w, s3⟩, hc, h⟩ := bind_some_of h
    obtain ⟨z2, hz2, h⟩ := bind_some_of h
    refine h3 _ _ _ _ _ _ _ _ e3 hc _ fun t I4 H4 g4 w4 r4 => ?_
    have g14 := g13.tr w3 g4
    refine hr' _ _ _ _ _ _ _ _ g4.s2 ((r2.mono g3.s1).mono g4.s1) r4 hz2 _ fun b2 I5 H5 g5 rb2 => ?_
    have w5 := w4.gr g5
    have g15 := g14.tr w4 (g5.up (c := c))
    have e5 := e.grow g15 w5
    split at h
    · cases rb2
      refine ⟨true, rfl, ?_⟩
      rw [if_pos rfl]
      obtain ⟨⟨k, s4⟩, hd, h⟩ := bind_some_of h
      obtain ⟨z3, hz3, h⟩ := map_some_of h
      cases h
      refine h4 _ _ _ _ _ _ _ _ e5 hd _ fun t2 I6 H6 g6 w6 r6 => ?_
      have g16 := g15.tr w5 g6
      exact hr'' _ _ _ _ _ _ _ _ g6.s2 ((r4.mono g5.s1).mono g6.s1) r6 hz3 _ fun v' I' H' g' r' => q v' I' H' (g16.tr w6 (g'.up (c := c))) (w6.gr g') r'
    · cases rb2
      cases h
      refine ⟨false, rfl, ?_⟩
      rw [if_neg Bool.false_ne_true]
      exact q _ _ _ g15 w5 (.bl _)
    · cases h
  · cases rb
    cases h
    refine ⟨false, rfl, ?_⟩
    rw [if_neg Bool.false_ne_true]
    exact q _ _ _ g13 w3 (.bl _)
  · cases h
theorem ee_chain3 {X : Cx} {a b c d : Expr} {ta tb tc td : TE} {da db dc dd : Dn} {pos : Pos} {op op' op'' : CmpOp} {r r' r'' : R2} {f g f3 : D → D → Option D} (h : CM X op r f) (h' : CM X op' r' g) (h'' : CM X op'' r'' f3) (ha : EE X a ta da) (hb : EE X b tb db) (hc : EE X c tc dc) (hd : EE X d td dd) (hm : lastMarks [op, op', op''] [b, c, d] = false := by rfl) :
    EE X (.Compare a [op, op', op''] [b, c, d] pos) (tChain3 r r' r'' ta tb tc td) (dChain3 f g f3 da db dc dd) := ⟨pe_chain3 h.o h'.o h''.o ha.p hb.p hc.p hd.p hm, sn_chain3 ha.s hb.s hc.s hd.s h.s h'.s h''.s⟩
end Dl
end
section
set_option Elab.async false
set_option linter.all false
set_option maxRecDepth 100000
set_option maxHeartbeats 4000000
namespace Dl
open PySem PySem.Spec PyProof.Rows L2 StX
/-! a written dict of the module: text keys, tuples of texts -/
def KTab (K : PySem.W.Frag) (w : World) (p : Addr) (l : List (Str × List Str)) : Prop := ∀ z vs, l.lookup z = some vs → ∃ a, KDct K w p z (.ref a) ∧ ∀ H, SqT K H a (vs.map V.str)
def kgetD (l : List (Str × List Str)) : D → Option D
  | .str z => (l.lookup z).map fun vs => .ktp (vs.map D.str)
  | _ => none
theorem sn_kget {K : Kx} {w : World} {p : Addr} {l : List (Str × List Str)} {tb : TE} {db : Dn} (hk : KTab K w p l) (h1 : SndE K tb db) : SndE K (tOp (rIxD K w) (tC (.ref p)) tb) (dUn (kgetD l) db) := fun c I H σ ρ s d s' e h Q q => by
  obtain ⟨⟨x, s1⟩, h2, h⟩ := bind_some_of h
  obtain ⟨z, h3, h⟩ := map_some_of h
  cases h
  have h3 : kgetD l x = some _ := h3
  unfold kgetD at h3
  split at h3
  · obtain ⟨vs, h4, rfl⟩ := map_some_of h3
    refine h1 _ _ _ _ _ _ _ _ e h2 _ fun v I1 H1 g1 w1 r1 => ?_
    cases r1 with
    | str =>
      obtain ⟨a, ha, hs⟩ := hk _ _ h4
      exact ⟨p, _, _, rfl, rfl, ha, q _ _ _ g1 w1 (.ktp (hs _) (RepL.strs _))⟩
  · cases h3
section
variable {X : Cx} {b : Expr} {tb : TE} {db : Dn} {pos px : Pos}
theorem ee_kget {x : Str} {p : Addr} {l : List (Str × List Str)} (hg : Gl X x) (hm : X.mg x = some (.ref p)) (hk : KTab X.K X.w p l) (hb : EE X b tb db) (hs : PlainIx b := by exact fun _ _ => rfl) (hd : (x == ("__debug__" : Str)) = false := by decide) :
    EE X (.Subscript (.Name x px) b pos) (tOp (rIxD X.kx X.w) (tC (.ref p)) tb) (dUn (kgetD l) db) := ⟨pe_ix ix_kdict (pe_glob hg hm rfl hd) hb.p hs, sn_kget hk hb.s⟩
end
/-! sorted(a list of ints) -/
def insI (x : Int) : List Int → List Int
  | [] => [x]
  | y :: ys => if x ≤ y then x :: y :: ys else y :: insI x ys
def srtI : List Int → List Int
  | [] => []
  | x :: xs => insI x (srtI xs)
theorem insI_perm (x : Int) : ∀ ys : List Int, (insI x ys).Perm (x :: ys)
  | [] => .refl _
  | y :: ys => by
    unfold insI
    split
    · exact .refl _
    · exact ((insI_perm x ys).cons y).trans (.swap x y ys)
theorem srtI_perm : ∀ xs : List Int, (srtI xs).Perm xs
  | [] => .refl _
  | x :: xs => (insI_perm x _).trans ((srtI_perm xs).cons x)
theorem insI_sorted (x : Int) : ∀ ys : List Int, ys.Pairwise (· ≤ ·) → (insI x ys).Pairwise (· ≤ ·)
  | [], _ => by simp [insI]
  | y :: ys, h => by
    have h1 := List.pairwise_cons.mp h
    unfold insI
    split
    · rename_i hx
      refine List.pairwise_cons.mpr ⟨fun z hz => ?_, h⟩
      rcases List.mem_cons.mp hz with rfl | hz
      · exact hx
      · exact Int.le_trans hx (h1.1 z hz)
    · rename_i hx
      refine List.pairwise_cons.mpr ⟨fun z hz => ?_, insI_sorted x ys h1.2⟩
      rcases List.mem_cons.mp ((insI_perm x ys).mem_iff.mp hz) with rfl | hz
      · omega
      · exact h1.1 z hz
theorem srtI_sorted : ∀ xs : List Int, (srtI xs).Pairwise (· ≤ ·)
  | [] => .nil
  | x :: xs => insI_sorted x _ (srtI_sorted xs)
theorem srt_uniq : ∀ {xs ys : List Int}, xs.Perm ys → xs.Pairwise (· ≤ ·) → ys.Pairwise (· ≤ ·) → xs = ys
  | [], ys, h, _, _ => (List.nil_perm.mp h).symm
  | x :: xs, [], h, _, _ => absurd (List.perm_nil.mp h) (by simp)
  | x :: xs, y :: ys, h, h1, h2 => by
    have a1 := List.pairwise_cons.mp h1
    have a2 := List.pairwise_cons.mp h2
    have e : x = y := by
      have m1 : x ∈ y :: ys := h.mem_iff.mp List.mem_cons_self
      have m2 : y ∈ x :: xs := h.mem_iff.mpr List.mem_cons_self
      rcases List.mem_cons.mp m1 with m1 | m1
      · exact m1
      · rcases List.mem_cons.mp m2 with m2 | m2
        · exact m2.symm
        · have b1 := a1.1 y m2
          have b2 := a2.1 x m1
          omega
    subst e
    rw [srt_uniq (List.Perm.cons_inv h) a1.2 a2.2]
def sortedD : List D → Option D
  | [.lst xs] => (intsOf xs).map fun ns => .lst ((srtI ns).map D.int)
  | _ => none
theorem RepL.intsR {K : Kx} {c : Option Addr} {I : Hp} : ∀ ns : List Int, RepL K c I (ns.map V.int) (ns.map D.int)
  | [] => .nil
  | n :: ns => .cons (.int n) (RepL.intsR ns)
theorem sl_sorted {K : Kx} : SndL K (rSortedI K) sortedD := fun c I H xs ds z s rx h Q q => by
  unfold sortedD at h
  split at h
  · obtain ⟨ns, h1, rfl⟩ := map_some_of h
    cases rx with
    | cons a r =>
      cases r
      cases a with
      | @lst p vs _ hI rv =>
        have e := intsOf_rep rv h1
        subst e
        refine ⟨p, ns, rfl, .of (s.lst hI), fun ns' b hp hs hb => ?_⟩
        have e2 : ns' = srtI ns := srt_uniq (hp.trans (srtI_perm ns).symm) hs (srtI_sorted ns)
        subst e2
        exact q.lst s hb (.intsR _)
  · cases h
/-! d.get(k) of a text dict -/
def dget1D : D → D → Option D
  | .dS es, .str k => some ((lookD es k).getD .non)
  | _, _ => none
theorem sn_dget1 {K : Kx} {td ty : TE} {dd dy : Dn} (h0 : SndE K td dd) (h1 : SndE K ty dy) : SndE K (tDGet1 td ty) (dOp dget1D dd dy) := fun c I H σ ρ s d s' e h Q q => by
  obtain ⟨⟨x, s1⟩, ha, h⟩ := bind_some_of h
  obtain ⟨⟨y, s2⟩, hb, h⟩ := bind_some_of h
  obtain ⟨z, h4, h⟩ := map_some_of h
  cases h
  unfold dget1D at h4
  split at h4
  · rename_i es k hx hy
    have hx : x = .dS es := hx
    have hy : y = .str k := hy
    subst hx hy
    refine h0 _ _ _ _ _ _ _ _ e ha _ fun v I1 H1 g1 w1 r1 => ?_
    cases r1 with
    | dS hI rs =>
      refine ⟨_, rfl, .inl ⟨_, g1.s2.dK hI⟩, ?_⟩
      refine h1 _ _ _ _ _ _ _ _ (e.grow g1 w1) hb _ fun u I2 H2 g2 w2 r2 => ?_
      have g12 := g1.tr w1 g2
      cases r2
      have rs2 := rs.mono g2.s1
      refine ⟨_, .inl ⟨_, Sum.inr k, g2.s2.dK (g2.s1 _ _ hI), rfl, rfl⟩, ?_⟩
      cases h4
      cases hl : lookD es k with
      | some d1 =>
        obtain ⟨v1, h5, h6⟩ := rs2.look hl
        rw [h5]
        exact q _ I2 H2 g12 w2 (by rw [hl]; exact h6)
      | none =>
        rw [rs2.none hl]
        exact q _ I2 H2 g12 w2 (by rw [hl]; exact .non)
  · cases h4
theorem ee_dget1 {X : Cx} {j : Nat} {o e : Expr} {apos cpos : Pos} {td ty : TE} {dd dy : Dn} (hr : Room j X.A) (ho : EE X o td dd) (he : EE X e ty dy) (m : M1 X o "get" apos e cpos := by exact ⟨rfl, by rfl, by decide, rfl⟩) :
    EE X (.Call (.Attribute o "get" apos) [e] [] cpos) (tDGet1 td ty) (dOp dget1D dd dy) := ⟨pe_dget1 (hu_of hr) ho.p he.p m, sn_dget1 ho.s he.s⟩
end Dl
end
section
set_option Elab.async false
set_option linter.all false
set_option maxRecDepth 100000
set_option maxHeartbeats 4000000
namespace Dl
open PySem PySem.Spec PyProof.Rows L2
/-! what the head tells of nested constants -/
def tupAt (K : PySem.W.Frag) (a : Addr) (vs : List V) : Bool := match K.lookup a with
  | some ⟨.type c, _, .seq its _, _⟩ => decide (c = "tuple") && (decide (its.size ≤ sizeLine) && He.relAll vs its.toList)
  | _ => false
theorem tupAt_ok {K : PySem.W.Frag} {a : Addr} {vs : List V} (h : tupAt K a vs = true) (H : Hp) : SqT K H a vs := by
  unfold tupAt at h
  cases q : K.lookup a with
  | none => rw [q] at h; cases h
  | some o =>
    obtain ⟨oc, od, dt, osl⟩ := o
    rw [q] at h
    cases oc with
    | type c =>
      cases dt with
      | seq its n =>
        obtain ⟨h1, h2⟩ := He.ba (show (decide (c = "tuple") && (decide (its.size ≤ sizeLine) && He.relAll vs its.toList)) = true from h)
        obtain ⟨h3, h4⟩ := He.ba h2
        exact .inr ⟨_, its, n, q, congrArg Value.type (of_decide_eq_true h1), rfl, of_decide_eq_true h3, He.relAll_ok h4⟩
      | _ => cases h
    | _ => cases dt <;> cases h
def keyAt (K : PySem.W.Frag) (p : Addr) (z : Str) : Addr := match PySem.W.nsIn K p z with
  | some (some (.ref b)) => b
  | _ => 0
def ktabB (K : PySem.W.Frag) (p : Addr) (l : List (Str × List Str)) : Bool := l.all fun q => He.eqO (PySem.W.nsIn K p q.1) (some (some (.ref (keyAt K p q.1)))) && tupAt K (keyAt K p q.1) (q.2.map V.str)
theorem look_in {z : Str} {vs : List Str} : ∀ {l : List (Str × List Str)}, l.lookup z = some vs → (z, vs) ∈ l
  | [], h => by cases h
  | (k, u) :: r, h => by
    have h2 : (match z == k with | true => some u | false => r.lookup z) = some vs := h
    cases q : z == k with
    | true =>
      rw [q] at h2
      have e := eq_of_beq q
      cases h2
      rw [e]; exact List.mem_cons_self
    | false =>
      rw [q] at h2
      exact List.mem_cons_of_mem _ (look_in h2)
theorem ktab_ok {K : PySem.W.Frag} {w : World} {p : Addr} {l : List (Str × List Str)} (h : ktabB K p l = true) (kd : ∃ es n, L2.KDict K w p es n) : KTab K w p l := fun z vs hz => by
  obtain ⟨es, n, ⟨h1, h2, _⟩⟩ := kd
  obtain ⟨h3, h4⟩ := He.ba (List.all_eq_true.mp h _ (look_in hz))
  exact ⟨_, ⟨es, n, _, h1, h2, He.eqO_ok h3, rfl⟩, fun H => tupAt_ok h4 H⟩
def refAt (K : PySem.W.Frag) (a : Addr) (i : Nat) : Addr := match K.lookup a with
  | some ⟨_, _, .seq its _, _⟩ => (match its[i]? with
    | some (.ref b) => b
    | _ => 0)
  | _ => 0
def tabB (K : PySem.W.Frag) (a : Addr) (l : List (List Str)) : Bool := tupAt K a ((List.range l.length).map fun i => V.ref (refAt K a i)) && (List.range l.length).all fun i => tupAt K (refAt K a i) ((l.getD i []).map V.str)
theorem tab_ok {K : PySem.W.Frag} {a : Addr} {l : List (List Str)} (h : tabB K a l = true) (P : Program) (w : World) (c : Option Addr) (I : Hp) : Rep ⟨K, P, w⟩ c I (.ref a) (.ktp (l.map fun y => .ktp (y.map D.str))) := by
  obtain ⟨h1, h2⟩ := He.ba h
  refine .ktp (tupAt_ok h1 I) ?_
  have key : ∀ (m : List (List Str)) (k : Nat), (∀ i, i < m.length → tupAt K (refAt K a (k + i)) ((m.getD i []).map V.str) = true) → RepL ⟨K, P, w⟩ c I ((List.range m.length).map fun i => V.ref (refAt K a (k + i))) (m.map fun y => .ktp (y.map D.str)) := fun m => by
    induction m with
    | nil => exact fun _ _ => .nil
    | cons y m ih =>
      intro k hk
      have e : (List.range (y :: m).length).map (fun i => V.ref (refAt K a (k + i))) = V.ref (refAt K a k) :: (List.range m.length).map fun i => V.ref (refAt K a (k + 1 + i)) := by
        rw [List.length_cons, List.range_succ_eq_map, List.map_cons, List.map_map]
        refine congrArg (V.ref (refAt K a k) :: ·) (List.map_congr_left fun i _ => ?_)
        show V.ref (refAt K a (k + (i + 1))) = _
        rw [show k + (i + 1) = k + 1 + i by omega]
      rw [e]
      exact .cons (.ktp (tupAt_ok (hk 0 (by simp)) I) (RepL.strs _)) (ih (k + 1) fun i hi => by
        have := hk (i + 1) (by rw [List.length_cons]; omega)
        rw [show k + (i + 1) = k + 1 + i by omega] at this
        exact this)
  have := key l 0 fun i hi => by
    rw [Nat.zero_add]
    exact List.all_eq_true.mp h2 i (List.mem_range.mpr hi)
  simpa only [Nat.zero_add] using this
end Dl
end
section
set_option Elab.async false
set_option linter.all false
set_option maxRecDepth 100000
set_option maxHeartbeats 4000000
namespace Dl
open PySem PySem.Spec PyProof.Rows L2 StX
theorem set_same {α : Type} {σ : List α} {i : Nat} {x : α} (h : σ[i]? = some x) : σ.set i x = σ := by
  apply List.ext_getElem?
  intro j
  by_cases z : i = j
  · subst z
    rw [List.getElem?_set]
    have hl := (List.getElem?_eq_some_iff.mp h).1
    simp only [if_true, hl, h]
  · rw [List.getElem?_set_ne z]
/-- an owned text dict gets a value -/
theorem EnvS.put {K : Kx} {c : Option Addr} {I0 H0 I H : Hp} {σ : L2.St} {ρ : List Sl} {s : Tau} {i : Nat} {p : Addr} {es : List (Str × D)} {kvs : List (Key × V)} {k : Str} {v : V} {d : D} (e : EnvS K c I0 H0 I H σ ρ s) (hs : ρ[i]? = some (.ow (.dS es))) (hp : σ[i]? = some (some (.ref p)))
    (hk : H p = some (.dK kvs)) (rv : Rep K c I v d) : EnvS K c I0 H0 I (upd H p (.dK (putK kvs (.inr k) v))) σ (ρ.set i (.ow (.dS (putD es k d)))) s := by
  obtain ⟨p2, hp2, o2⟩ := e.env.ow hs
  rw [hp] at hp2
  cases hp2
  cases o2 with
  | @dS kv2 _ h1 h2 h3 h4 =>
    rw [hk] at h1
    cases h1
    have rr := h2.putL (k := k) rv
    have h0 := e.fr i p _ hp hs
    have eq := set_same hp
    have sl2 : ∀ {σ' : L2.St} {ρ' : List Sl}, (∀ (j : Nat) (d : D), σ'[j]? = some (some (V.ref p)) → ρ'[j]? = some (.ow d) → False) → SlL K c I H σ' ρ' → SlL K c I (upd H p (.dK (putK kvs (.inr k) v))) σ' ρ' := fun {σ' ρ'} n sl => by
      induction sl with
      | nil => exact .nil
      | @cons v x σ2 ρ2 a r ih =>
        refine .cons ?_ (ih fun j d z1 z2 => n (j + 1) d (by simpa using z1) (by simpa using z2))
        cases a with
        | un => exact .un _
        | im a => exact .im a
        | @ow p2 d2 o2 =>
          have np : p2 ≠ p := fun z => n 0 d2 (by rw [z]; rfl) rfl
          refine .ow ?_
          cases o2 with
          | lst h1 h2 h3 h4 => exact .lst (by rw [upd_ne np]; exact h1) h2 h3 h4
          | dS h1 h2 h3 h4 => exact .dS (by rw [upd_ne np]; exact h1) h2 h3 h4
          | dsk h1 r1 r2 r3 h3 h4 => exact .dsk (by rw [upd_ne np]; exact h1) r1 r2 r3 h3 h4
    have slot := SlL.set (v := some (V.ref p)) (x := .un) (.un _) i e.env.sl
    rw [eq] at slot
    have s2' := sl2 (σ' := σ) (ρ' := ρ.set i .un) (fun j d' z1 z2 => by
      by_cases z : i = j
      · subst z
        rw [List.getElem?_set] at z2
        simp only [if_true] at z2
        split at z2 <;> cases z2
      · rw [List.getElem?_set_ne z] at z2
        exact e.env.uq i j p _ d' z hp z1 hs z2) slot
    have s3 := SlL.set (v := some (V.ref p)) (x := .ow (.dS (putD es k d))) (.ow (.dS upd_same rr h3 h4)) i s2'
    rw [eq, List.set_set] at s3
    refine ⟨⟨e.env.sub.updH h3, fun rr hr => ?_, s3, ?_⟩, e.s0, e.kp.updH h0, e.nw, fun j q' d' h1' h2' => ?_, e.nc⟩
    · obtain ⟨z1, sc, z2, z3⟩ := e.env.w rr hr
      have n : rr ≠ p := fun z => h4 (by rw [hr, z])
      exact ⟨z1, sc, by rw [upd_ne n]; exact z2, z3⟩
    · have u := Uq.setO (i := i) (p := p) (d := .dS (putD es k d)) e.env (fun j d' nj z1 z2 => e.env.uq i j p _ d' (Ne.symm nj) hp z1 hs z2)
      rw [eq] at u
      exact u
    · by_cases z : i = j
      · subst z
        rw [hp] at h1'; cases h1'
        exact h0
      · rw [List.getElem?_set_ne z] at h2'
        exact e.fr j q' d' h1' h2'
/-- d[k], d[l] = x, y -/
def dDPut2 (i : Nat) (k1 k2 : Str) (da : Dn) : Ds := fun ρ s => (da ρ s).bind fun v => v.1.asT.bind fun xs => match xs, ρ[i]? with
  | [x, y], some (.ow (.dS es)) => if es.length + 1 < 1000000 then some (.nx (ρ.set i (.ow (.dS (putD (putD es k1 x) k2 y)))), v.2) else none
  | _, _ => none
theorem putD_len (es : List (Str × D)) (k : Str) (v : D) : (putD es k v).length ≤ es.length + 1 := by
  unfold putD
  split
  · rw [List.length_map]; omega
  · rw [List.length_append]; exact Nat.le_refl _
theorem ss_dput2 {K : Kx} {te : TE} {da : Dn} (i : Nat) (k1 k2 : Str) (h1 : SndE K te da) :
    SndS K (tAsg te (gTup K 2 (gCons (gSub (tVar i) (tC (.str k1)) rSetD) (gCons (gSub (tVar i) (tC (.str k2)) rSetD) gNil)))) (dDPut2 i k1 k2 da) := fun c I0 H0 I H σ ρ s o s' e h En q => by
  obtain ⟨⟨v, s1⟩, ha, h⟩ := bind_some_of h
  obtain ⟨xs, hx, h⟩ := bind_some_of h
  split at h
  · rename_i x y es hs
    split at h
    · rename_i hl
      cases h
      refine h1 _ _ _ _ _ _ _ _ e.env ha _ fun u I1 H1 g1 w1 r1 => ?_
      have e1 := e.grow g1 w1
      obtain ⟨a, vs, rfl, hq, rv⟩ := r1.asT hx
      cases rv with
      | @cons v1 _ vs1 _ rx rv => cases rv with
        | @cons v2 _ vs2 _ ry rv =>
          cases rv
          obtain ⟨p, hp, o1⟩ := e1.env.ow hs
          cases o1 with
          | @dS kvs _ z1 z2 z3 z4 =>
            have e2 := e1.put (k := k1) hs hp z1 rx
            have hil : i < ρ.length := (List.getElem?_eq_some_iff.mp hs).1
            have hs2 : (ρ.set i (.ow (.dS (putD es k1 x))))[i]? = some (.ow (.dS (putD es k1 x))) := by
              rw [List.getElem?_set]
              simp only [if_true, hil]
            have e3 := e2.put (k := k2) hs2 hp upd_same ry
            rw [List.set_set] at e3
            have l1 : kvs.length < sizeLine := by
              rw [z2.length]
              exact Nat.lt_of_lt_of_le (show es.length < 1000000 by omega) (by decide)
            have l2 : (putK kvs (.inr k1) v1).length < sizeLine := by
              rw [(z2.putL (k := k1) rx).length]
              have := putD_len es k1 x
              exact Nat.lt_of_lt_of_le (show (putD es k1 x).length < 1000000 by omega) (by decide)
            refine ⟨a, _, rfl, g1.s2.sqT hq, rfl, _, _, rfl, .ref p, hp, p, _, rfl, .inl ⟨kvs, .inr k1, z1, rfl, l1, rfl⟩, _, _, rfl, .ref p, hp, p, _, rfl, .inl ⟨_, .inr k2, upd_same, rfl, l2, rfl⟩, rfl, q _ _ _ e3⟩
    · cases h
  · cases h
theorem es_dput2 {X : Cx} {j : Nat} {x : Str} {px1 px2 p1 p2 q1 q2 pt pos : Pos} {k1 k2 : Str} {n1 n2 : Nat} {kt : Nat} {e : Expr} {te : TE} {da : Dn} (i : Nat) (hr : Room j X.A) (hc : X.calm = true) (hx1 : EE X (.Name x px1) (tVar i) (dVar i)) (hx2 : EE X (.Name x px2) (tVar i) (dVar i)) (he : EE X e te da)
    (hs : swapsWithSole [.Tuple [.Subscript (.Name x px1) (.Constant (.str k1) n1 p1) q1, .Subscript (.Name x px2) (.Constant (.str k2) n2 p2) q2] kt pt] e pos.line X.env = pure false := by rfl)
    (hw : swappedStores [.Tuple [.Subscript (.Name x px1) (.Constant (.str k1) n1 p1) q1, .Subscript (.Name x px2) (.Constant (.str k2) n2 p2) q2] kt pt] e X.env = pure none := by rfl) :
    ES X (.Assign [.Tuple [.Subscript (.Name x px1) (.Constant (.str k1) n1 p1) q1, .Subscript (.Name x px2) (.Constant (.str k2) n2 p2) q2] kt pt] e pos)
      (tAsg te (gTup X.kx 2 (gCons (gSub (tVar i) (tC (.str k1)) rSetD) (gCons (gSub (tVar i) (tC (.str k2)) rSetD) gNil)))) (dDPut2 i k1 k2 da) :=
  ⟨ps_asg he.p (pg_tup hc (pgs_cons (pg_sub hx1.p pe_str (set_dict (hu_of hr))) (pgs_cons (pg_sub hx2.p pe_str (set_dict (hu_of hr))) pgs_nil (by rfl)) (by rfl))) hs hw (by rfl), ss_dput2 i k1 k2 he.s⟩
end Dl
end
section
set_option Elab.async false
set_option linter.all false
set_option maxRecDepth 100000
set_option maxHeartbeats 4000000
namespace Dl
open PySem PySem.Spec PyProof.Rows L2 StX
/-! an owned text dict, read -/
def dgetOD (i : Nat) (dk : Dn) : Dn := fun ρ s => (dk ρ s).bind fun k => match k.1, ρ[i]? with
  | .str x, some (.ow (.dS es)) => (lookD es x).map fun z => (z, k.2)
  | _, _ => none
theorem sn_dgetO {K : Kx} {ty : TE} {dk : Dn} (i : Nat) (h1 : SndE K ty dk) : SndE K (tDGet (tVar i) ty) (dgetOD i dk) := fun c I H σ ρ s d s' e h Q q => by
  obtain ⟨⟨y, s1⟩, ha, h⟩ := bind_some_of h
  split at h
  · rename_i x es hx hs
    have hx : y = .str x := hx
    subst hx
    obtain ⟨z, hz, h⟩ := map_some_of h
    cases h
    obtain ⟨p, hp, o⟩ := e.ow hs
    refine ⟨.ref p, hp, ?_⟩
    refine h1 _ _ _ _ _ _ _ _ e ha _ fun u I1 H1 g1 w1 r1 => ?_
    cases r1 with
    | str =>
      have o1 := o.grow g1
      cases o1 with
      | @dS kvs _ z1 z2 z3 z4 =>
        obtain ⟨v, h2, h3⟩ := z2.look hz
        exact ⟨p, v, rfl, .inl ⟨kvs, .inr x, .inl z1, rfl, h2.symm⟩, q _ I1 H1 g1 w1 h3⟩
  · cases h
theorem ee_dgetO {X : Cx} {j : Nat} {x : Str} {px pos : Pos} {k : Expr} {ty : TE} {dk : Dn} (i : Nat) (hr : Room j X.A) (hx : EE X (.Name x px) (tVar i) (dVar i)) (hk : EE X k ty dk) (hs : NoSl k := by exact fun _ _ => rfl) :
    EE X (.Subscript (.Name x px) k pos) (tDGet (tVar i) ty) (dgetOD i dk) := ⟨pe_dget (hu_of hr) hx.p hk.p hs, sn_dgetO i hk.s⟩
/-! a call that gives a new thing -/
def dCallO (f : Fn) (ax : Da) : Dn := fun ρ s => (ax ρ s).bind fun p => (f p.1 p.2).bind fun r => if r.1.2 = true then some (r.1.1, r.2) else none
theorem sf_call {K : Kx} {n : Nat} {f : Fn} {tx : TA} {ax : Da} (hx : SndA K tx ax) (hl : ∀ ρ s ds s', ax ρ s = some (ds, s') → ds.length = n) : SndF K (tCall (spG K n f) [] E0 tx) (dCallO f ax) := fun c I H σ ρ s d s' e h Q q => by
  obtain ⟨⟨ds, s1⟩, h1, h⟩ := bind_some_of h
  obtain ⟨⟨⟨d1, o⟩, s2⟩, h2, h⟩ := bind_some_of h
  split at h
  · rename_i ho
    have ho : o = true := ho
    subst ho
    cases h
    refine hx _ _ _ _ _ _ _ _ e h1 _ fun vs I1 H1 g1 w1 r1 => ?_
    show spG K n f (vs ++ []) H1 Q E0
    rw [List.append_nil]
    refine ⟨r1.length.trans (hl _ _ _ _ h1), c, I1, ds, s1, d1, true, s2, r1, g1.s2, w1, h2, fun v I' H' g w r => ?_⟩
    obtain ⟨p, rfl, hp, hn⟩ := r
    have h0 : H p = none := g1.kp.there (w1.ne hn) hn
    exact q p I' H' (g1.tr w1 g) w hp h0
  · cases h
section
variable {X : Cx} {k : Nat} {fn : Fn} {x : Str} {e : Expr} {es : List Expr} {tx : TA} {ax : Da} {p pos : Pos} {n : Nat}
theorem ef_call {j : Nat} (F : Cd X.prog X.w X.kx X.mg X.base k x n fn) (hr : Room j X.A) (hk : k ≤ j) (hg : Gl X x) (ha : EA X (e :: es) tx ax) (hl : ∀ ρ s ds s', ax ρ s = some (ds, s') → ds.length = n) (hdb : (x == ("__debug__" : Str)) = false := by decide)
    (he : starEach (e :: es) X.env = (false, eval e X.env) :: starEach es X.env := by rfl) (hpl : (backTo pos (starEach es X.env)).any (fun z => z.1) = false := by rfl) : EF X (.Call (.Name x p) (e :: es) [] pos) (tCall (spG X.kx n fn) [] E0 tx) (dCallO fn ax) := by
  obtain ⟨f, fd, ps, hn, G, gm, kp, b⟩ := F.h
  exact ⟨pe_call G (hr.mono hk) hg gm kp b .nil pass0 ha.p hdb he hpl, sf_call ha.s hl⟩
end
/-! list(range(..)) -/
theorem RepL.rg (K : Kx) (c : Option Addr) (I : Hp) (a b : Int) : RepL K c I (rgV a b) (rngL a (b - a).toNat) := by
  unfold rgV rngL
  induction (List.range (b - a).toNat) with
  | nil => exact .nil
  | cons x xs ih => exact .cons (.int _) ih
def dLstRg1 (da : Dn) : Dn := fun ρ s => (da ρ s).bind fun p => match p.1 with
  | .int j => if decide (0 ≤ j ∧ j ≤ 1000000) = true then some (.lst (rngL 0 j.toNat), p.2) else none
  | _ => none
theorem sn_lstRg1 {K : Kx} {te : TE} {da : Dn} (h1 : SndE K te da) : SndE K (tLstRg (tRg1 te)) (dLstRg1 da) := fun c I H σ ρ s d s' e h Q q => by
  obtain ⟨⟨x, s1⟩, ha, h⟩ := bind_some_of h
  split at h
  · rename_i j hj
    have hj : x = .int j := hj
    subst hj
    split at h
    · rename_i hc
      have hc := of_decide_eq_true hc
      cases h
      refine h1 _ _ _ _ _ _ _ _ e ha _ fun v I1 H1 g1 w1 r1 => ?_
      cases r1
      refine ⟨j, rfl, .of_le (by omega) (by omega) (by omega) (by omega), fun p hp => ?_⟩
      have g := Gr.new (o := .lst (rgV 0 j)) g1.s2 hp
      have rr := RepL.rg K c (upd I1 p (.lst (rgV 0 j))) 0 j
      rw [Int.sub_zero] at rr
      exact q _ _ _ (g1.tr w1 g.up) (w1.gr g) (.lst upd_same rr)
    · cases h
  · cases h
section
variable {X : Cx} {a : Expr} {ta : TE} {da : Dn} {p p2 pos q : Pos}
theorem ee_lstRg1 (hg : Gl X "list") (hm : X.mg "list" = none) (hg2 : Gl X "range") (hm2 : X.mg "range" = none) (ha : EE X a ta da) (hc : X.calm = true) (na : starEach [a] X.env = (false, eval a X.env) :: starEach [] X.env := by rfl)
    (nb : starEach [.Call (.Name "range" p2) [a] [] q] X.env = (false, eval (.Call (.Name "range" p2) [a] [] q) X.env) :: starEach [] X.env := by rfl) :
    EE X (.Call (.Name "list" p) [.Call (.Name "range" p2) [a] [] q] [] pos) (tLstRg (tRg1 ta)) (dLstRg1 da) := ⟨pe_listRg hc hg hm (prg_1 hg2 hm2 ha.p na) nb, sn_lstRg1 ha.s⟩
end
/-! text * int -/
def rMulS : R2 := fun x y H Q => ∃ z n, x = .str z ∧ y = .int n ∧ MulOk z n ∧ Q (.str (Txt.mul z n)) H
theorem op_mulS {X : Cx} : OpR X (binaryOp .Mult) rMulS := by
  intro pins s σ H x y v u Q I rx ry h
  obtain ⟨z, n, rfl, rfl, ok, q⟩ := h
  obtain ⟨t, rfl⟩ := rx
  obtain ⟨t', rfl⟩ := ry
  exact PySem.SB.mul ok fun t' k => ⟨.str _, H, I.tok _, ⟨_, rfl⟩, q⟩
def mulSD : D → D → Option D
  | .str z, .int n => if decide (0 ≤ n ∧ n ≤ 1000 ∧ z.length ≤ 1000) = true then some (.str (Txt.mul z n)) else none
  | _, _ => none
theorem mulOk_small {z : Str} {n : Int} (h0 : 0 ≤ n) (h1 : n ≤ 1000) (h2 : z.length ≤ 1000) : MulOk z n := by
  refine ⟨?_, fun h3 _ => ?_, fun _ _ => ?_⟩
  · rw [decide_eq_false (by omega), decide_eq_false (by omega)]; rfl
  · have : (2 ^ 63 - 1 : Int) / n ≥ 1000 := by
      have h4 : 0 < n := by omega
      exact (Int.le_ediv_iff_mul_le h4).mpr (by omega)
    omega
  · show decide (z.length * n.toNat > sizeLine) = false
    refine decide_eq_false fun h => ?_
    have h5 : z.length * n.toNat ≤ 1000 * 1000 := Nat.mul_le_mul h2 (by omega)
    have h6 := sizeLine_eq
    omega
theorem s2_mulS {K : Kx} : Snd2 K rMulS mulSD := fun c I H x y d e z s rx ry h Q q => by
  unfold mulSD at h
  split at h
  · split at h
    · rename_i hc
      have hc := of_decide_eq_true hc
      cases h; cases rx; cases ry
      exact ⟨_, _, rfl, rfl, mulOk_small hc.1 hc.2.1 hc.2.2, q.val s (.str _)⟩
    · cases h
  · cases h
theorem ee_mulS {X : Cx} {a b : Expr} {ta tb : TE} {da db : Dn} {pos : Pos} (ha : EE X a ta da) (hb : EE X b tb db) : EE X (.BinOp a .Mult b pos) (tOp rMulS ta tb) (dOp mulSD da db) := ⟨pe_op op_mulS ha.p hb.p, sn_op ha.s hb.s s2_mulS⟩
end Dl
end
section
set_option Elab.async false
set_option linter.all false
set_option maxRecDepth 100000
set_option maxHeartbeats 4000000
namespace Dl
open PySem PySem.Spec PyProof.Rows L2 StX
/-! a set of texts, however many -/
/-- how many texts are met -/
def cntM : List Str → Nat
  | [] => 0
  | x :: r => cntM r + (if r.contains x then 0 else 1)
/-- how many, from the left -/
def cntL (xs : List Str) : Nat := cntM xs.reverse
theorem cntL_app (xs : List Str) (x : Str) : cntL (xs ++ [x]) = cntL xs + (if xs.contains x then 0 else 1) := by
  unfold cntL
  rw [List.reverse_append]
  show cntM xs.reverse + (if xs.reverse.contains x then 0 else 1) = _
  have e : xs.reverse.contains x = xs.contains x := by
    rw [List.contains_eq_mem, List.contains_eq_mem]
    exact decide_eq_decide.mpr List.mem_reverse
  rw [e]
theorem cntM_le : ∀ xs : List Str, cntM xs ≤ xs.length
  | [] => Nat.le_refl _
  | x :: r => by
    have := cntM_le r
    show cntM r + _ ≤ r.length + 1
    split <;> omega
theorem cntL_le (xs : List Str) : cntL xs ≤ xs.length := by
  have := cntM_le xs.reverse
  rw [List.length_reverse] at this
  exact this
section
variable {prog : Program} {w : World} {A : Around} {R : Result → Shared → Prop} {I : Addr} {fp wr : List Addr} {G : Array GenState → Array GenState → Prop} {n : Nat} {P : Nat → Value → Prop} {St : Nat → Shared → Prop}
theorem take_any (xs : List Str) {i : Nat} (h : i < xs.length) (k : Str) : (xs.take (i + 1)).any (· == k) = ((xs.take i).any (· == k) || decide (k = xs.getD i Str.empty)) := by
  rw [List.take_succ_eq_append_getElem h, List.any_append, List.getD_eq_getElem?_getD, List.getElem?_eq_getElem h]
  congr 1
  show (xs[i] == k || false) = decide (k = xs[i])
  rw [Bool.or_false]
  by_cases e : k = xs[i]
  · rw [decide_eq_true e, e, beq_self_eq_true]
  · rw [decide_eq_false e, beq_eq_false_iff_ne.mpr fun q => e q.symm]
theorem take_cnt (xs : List Str) {i : Nat} (h : i < xs.length) : cntL (xs.take (i + 1)) = cntL (xs.take i) + (if (xs.take i).any (· == xs.getD i Str.empty) = true then 0 else 1) := by
  rw [List.take_succ_eq_append_getElem h, cntL_app, List.getD_eq_getElem?_getD, List.getElem?_eq_getElem h]
  congr 1
  have e : (xs.take i).contains xs[i] = (xs.take i).any (· == xs[i]) := by
    induction xs.take i with
    | nil => rfl
    | cons y ys ih =>
      rw [List.contains_cons, List.any_cons, ih, show (xs[i] == y) = (y == xs[i]) from BEq.comm]
  show (if (xs.take i).contains xs[i] = true then 0 else 1) = if (xs.take i).any (· == xs[i]) = true then 0 else 1
  rw [e]
/-- the walk that fills it -/
theorem fillS (W : WalksS prog w A.in1 I fp wr G n P St) (S : Addr) (hSf : S ∉ fp) (xs : List Str) (hsz : xs.length = n) (hn : n + 1 < scanBound) (hval : ∀ i v, P i v → ∃ t, v = .str (xs.getD i Str.empty) t) :
    ∀ (k i : Nat) (s : Shared), n - i = k → i ≤ n → St i s → s.heap.SetOf (PySem.strKind prog w) S (fun z => (xs.take i).any (· == z)) (cntL (xs.take i)) →
      (∀ s', Moved (S :: wr) G s s' → s'.heap.SetOf (PySem.strKind prog w) S (fun z => (xs.take n).any (· == z)) (cntL (xs.take n)) → R (.ok (.ret .none)) s') →
      codeAny (model prog w) A (.builtin "set.update.loop" ⟨[.ref S, .ref I], []⟩) R s := by
  have hSw : S ∉ wr := fun h => hSf (W.sub _ h)
  have sub1 : ∀ b ∈ wr, b ∈ S :: wr := fun b hb => List.mem_cons_of_mem _ hb
  have keep : ∀ {s s' : Shared} {p : Str → Bool} {m : Nat}, Moved wr G s s' → s.heap.SetOf (PySem.strKind prog w) S p m → s'.heap.SetOf (PySem.strKind prog w) S p m := fun hm hS => by
    obtain ⟨o, es, ep, t, ho, rest⟩ := hS
    exact ⟨o, es, ep, t, hm.heap S _ hSw ho, rest⟩
  intro k
  induction k with
  | zero =>
    intro i s hk hi hst hS hR
    obtain rfl : i = n := by omega
    refine codeAny_builtin PyProof.Rows.F.entry_set_update_loop ?_
    rw [Around.under_plainId PyProof.Rows.F.plain_set_update_loop _]
    show wpAny _ A.in1 (pyNext (.ref I) >>= _) _ _ s
    exact wpAny_bind (W.done s _ _ hst fun s' hm => (show wpAny _ A.in1 (ret Value.none) _ _ s' from wpAny_pure (hR s' (hm.mono sub1) (keep hm hS))))
  | succ k ih =>
    intro i s hk hi hst hS hR
    have hlt : i < n := by omega
    have hlx : i < xs.length := by omega
    refine codeAny_builtin PyProof.Rows.F.entry_set_update_loop ?_
    rw [Around.under_plainId PyProof.Rows.F.plain_set_update_loop _]
    show wpAny _ A.in1 (pyNext (.ref I) >>= _) _ _ s
    refine wpAny_bind (W.item i s _ _ hlt hst fun v s' hP hst' hm => ?_)
    obtain ⟨t, rfl⟩ := hval i v hP
    have hS' := keep hm hS
    show wpAny _ A.in1 (holding [Value.str (xs.getD i Str.empty) t] (setAdd S (.str (xs.getD i Str.empty) t)) >>= _) _ _ s'
    refine wpAny_bind (wpAny_holding ?_)
    unfold setAdd
    refine wpAny_holding (wpAny_bind ((PySem.strKind prog w).pyHash (k := xs.getD i Str.empty) (strKind_is _ _ _ _) ?_))
    have room : cntL (xs.take i) + 1 < scanBound := by
      have := cntL_le (xs.take i)
      rw [List.length_take] at this
      omega
    refine wpAny_setAddHashed_of (knd := PySem.strKind prog w) (s := { s' with toks := s'.toks + 1 }) (strKind_is _ _ _ _) rfl hS' room fun h' hsb hS2 => ?_
    have hSi : h'.SetOf (PySem.strKind prog w) S (fun z => (xs.take (i + 1)).any (· == z)) (cntL (xs.take (i + 1))) := by
      refine SetOf_congr hS2 (fun z => (take_any xs hlx z).symm) ?_
      rw [take_cnt xs hlx]
      split <;> rfl
    refine wpAny_pure ⟨plainId_quiet PyProof.Rows.F.plain_set_update_loop _, ih (i + 1) _ (by omega) hlt (W.frame _ s' _ _ hst' (Nat.le_succ _) fun b hb o e => ?_) hSi fun s'' hm'' hS'' => ?_⟩
    · rw [hsb.2 b (fun h : b = S => hSf (by rw [← h]; exact hb))]; exact e
    · refine hR s'' (Moved.trans W.gtrans ((hm.mono sub1).then_heap (Nat.le_succ _) fun b o hb e => ?_) hm'') hS''
      rw [hsb.2 b (fun h : b = S => hb (by rw [h]; exact List.mem_cons_self))]; exact e
end
end Dl
end
section
set_option Elab.async false
set_option linter.all false
set_option maxRecDepth 100000
set_option maxHeartbeats 4000000
namespace Dl
open PySem PySem.Spec PyProof.Rows L2 StX
/-! set(..) of what gives texts; len of it -/
section
variable {prog : Program} {w : World} {A : Around} {E : Value → Shared → Prop} {s : Shared}
/-- a set that holds nothing yet -/
abbrev set0 (led : Bool) : Obj := { cls := .type "set", dict := none, data := .set #[] 0 (.fresh 0 0 led) }
abbrev With (s : Shared) (h : Heap) : Shared := { s with heap := h }
set_option maxHeartbeats 8000000 in
theorem set_call {v : Value} {T : String} {P : Heap → Prop} {Q : Value → Shared → Prop} (tv : ∀ h : Heap, (∀ b o, s.heap.get? b = some o → h.get? b = some o) → (With s h).TypeIs v T)
    (n1 : isSubtype (.type T) (.type "set") = pure false) (n2 : isSubtype (.type T) (.type "frozenset") = pure false) (n3 : (Value.type T == Value.type "dict") = false)
    (fill : ∀ (led : Bool) (E1 : Value → Shared → Prop), wpAny (model prog w) A.in1.in1 (pyIter v) (fun it s1 => ∀ R1 : Result → Shared → Prop, (∀ h' tk, P h' → (∀ b o, s.heap.get? b = some o → h'.get? b = some o) → R1 (.ok (.ret .none)) { s with heap := h', toks := tk }) →
      codeAny (model prog w) A.in1.in1 (.builtin "set.update.loop" ⟨[.ref s.heap.objs.size, it], []⟩) R1 s1) E1 (With s (s.heap.push (set0 led))))
    (fin : ∀ (h' : Heap) (tk : Nat), P h' → (∀ b o, s.heap.get? b = some o → h'.get? b = some o) →
      Q (.ref s.heap.objs.size) { s with heap := h', toks := tk }) : wpAny (model prog w) A (call (.type "set") [v]) Q E s := by
  have ⟨_, _, _⟩ := PySem.F.called_set.mro
  have m1 := PySem.F.called_set.made
  have m2 := PySem.F.called_set.sub
  have m3 := PySem.F.called_set.notType
  have m4 := PySem.F.called_set.canCreate
  have m5 := PySem.F.typeCall_set_1 v
  refine wpAny_call (codeAny_of_tree (show wpAny _ _ (callAny (.type "set") _) _ _ _ from wpAny_pure ⟨Code.quiet_builtin _ (by decide +kernel), codeAny_builtin PySem.F.entry_type_call ?_⟩))
  rw [Around.under_plain (weight_type_call_type "set" [v] []) rfl]
  repeat (any_goals (first | assumption | wp_step))
  refine codeAny_mono (code_set_new_1 v (E := E) (Q₁ := fun r s1 => ∃ led : Bool, r = .ref s.heap.objs.size ∧ s1 = With s (s.heap.push (set0 led))) fun led => ⟨led, rfl, rfl⟩) fun r s1 hr => ?_
  cases r with
  | error e => exact hr
  | ok fl =>
    cases fl with
    | ret r =>
      obtain ⟨led, rfl, rfl⟩ := hr
      have gS : (s.heap.push (set0 led)).get? s.heap.objs.size = some (set0 led) := Heap.get?_push_size _ rfl
      have tS : (With s (s.heap.push (set0 led))).TypeIs (.ref s.heap.objs.size) "set" := ⟨_, gS, rfl⟩
      have i1 := PySem.F.called_set.init.lookup
      have i2 := PySem.F.called_set.init.bind (.ref s.heap.objs.size)
      repeat (any_goals (first | assumption | wp_step))
      refine codeAny_mono (codeAny_call_builtin (R := wants (fun r s2 => r = .none ∧ ∃ h' tk, s2 = { s with heap := h', toks := tk } ∧ P h' ∧
        ∀ b o, s.heap.get? b = some o → h'.get? b = some o) E) PySem.F.called_set.init.plain PySem.F.entry_set_init (check_set_init_1 tS ?_)) fun r2 s2 hr2 => ?_
      · have kp : ∀ b o, s.heap.get? b = some o → (s.heap.push (set0 led)).get? b = some o := fun b o e => Heap.get?_push_of_some _ e
        have tv := tv _ kp
        unfold Builtin.«set.__init__» noKeywords Builtin.Frozenset.updateFrom
        generalize hPI : pyIter = PI
        wp_walk
        subst hPI
        refine wpAny_mono (fill led _) (fun it s1 h => ?_) fun _ _ h => h
        refine wpAny_bind (wpAny_runValue (h _ fun h' tk hp hk => ?_))
        exact wpAny_pure (wpAny_pure ⟨rfl, h', tk, rfl, hp, hk⟩)
      · cases r2 with
        | error e => exact hr2
        | ok f2 =>
          cases f2 with
          | ret r =>
            obtain ⟨rfl, h', tk, rfl, q1, q2⟩ := hr2
            repeat (any_goals (first | assumption | wp_step))
            exact fin _ _ q1 q2
          | _ => exact hr2.elim
    | _ => exact hr.elim
theorem old_lt {h : Heap} {b : Addr} {o : Obj} (e : s.heap.get? b = some o) : b ≠ s.heap.objs.size := Nat.ne_of_lt (Heap.lt_size e)
theorem get2_push {led : Bool} {o : Obj} : ((s.heap.push (set0 led)).push o).get? s.heap.objs.size = some (set0 led) := Heap.get?_push_of_some _ (Heap.get?_push_size _ rfl)
/-- how the walk over what was given ends -/
theorem fill_end {G0 : Array GenState → Array GenState → Prop} {xs : List Str} {led : Bool} {o : Obj} {wr : List Addr} {R1 : Result → Shared → Prop} {s1 : Shared} (hg : G0 = fun a b => b = a) (hw : ∀ b ∈ wr, b = s.heap.objs.size ∨ b = (s.heap.push (set0 led)).objs.size)
    (hR : ∀ h' tk, h'.SetOf (PySem.strKind prog w) s.heap.objs.size (fun z => (xs.take xs.length).any (· == z)) (cntL (xs.take xs.length)) → (∀ b o, s.heap.get? b = some o → h'.get? b = some o) → R1 (.ok (.ret .none)) { s with heap := h', toks := tk })
    (hm : Moved wr G0 (With s ((s.heap.push (set0 led)).push o)) s1) (hS : s1.heap.SetOf (PySem.strKind prog w) s.heap.objs.size (fun z => (xs.take xs.length).any (· == z)) (cntL (xs.take xs.length))) : R1 (.ok (.ret .none)) s1 := by
  subst hg
  obtain ⟨h', g', d', tk', os'⟩ := s1
  cases (show g' = s.gens from hm.gens)
  cases (show d' = s.drawn from hm.drawn)
  cases (show os' = s.os from hm.os)
  refine hR h' tk' hS fun b u e => hm.heap b u (fun hb => ?_) (Heap.get?_push_of_some _ (Heap.get?_push_of_some _ e))
  have lt := Heap.lt_size e
  rcases hw b hb with z | z
  · rw [z] at lt; exact Nat.lt_irrefl _ lt
  · rw [z, Heap.size_push] at lt; exact absurd lt (Nat.not_lt.mpr (Nat.le_succ _))
theorem set_strs {l : Addr} {items : Array Value} {xs : List Str} {Q : Value → Shared → Prop} (hh : A.handled = none) (hl : s.heap.IsList l items) (hi : StrsAre items.toList xs) (few : xs.length + 1 < scanBound)
    (fin : ∀ (h' : Heap) (tk : Nat), h'.SetOf (PySem.strKind prog w) s.heap.objs.size (fun z => (xs.take xs.length).any (· == z)) (cntL (xs.take xs.length)) → (∀ b o, s.heap.get? b = some o → h'.get? b = some o) →
      Q (.ref s.heap.objs.size) { s with heap := h', toks := tk }) : wpAny (model prog w) A (call (.type "set") [.ref l]) Q E s := by
  have hz : xs.length = items.size := by rw [← StrsAre.len_eq hi, Array.length_toList]
  refine set_call (T := "list") (fun h k => let ⟨o, e, c, _⟩ := hl; ⟨o, k _ _ e, c⟩) PySem.F.sub_list_set PySem.F.sub_list_frozenset (by decide) (fun led E1 => ?_) fin
  have hl1 : (s.heap.push (set0 led)).IsList l items := hl.push _
  have ll : l < s.heap.objs.size := let ⟨o, e, _⟩ := hl; Heap.lt_size e
  have z1 : (s.heap.push (set0 led)).objs.size = s.heap.objs.size + 1 := Heap.size_push ..
  have n1 : l ≠ (s.heap.push (set0 led)).objs.size := by rw [z1]; exact Nat.ne_of_lt (Nat.lt_succ_of_lt ll)
  have n2 : s.heap.objs.size ∉ [(s.heap.push (set0 led)).objs.size, l] := by
    rw [z1, List.mem_cons, List.mem_singleton, not_or]
    exact ⟨Nat.ne_of_lt (Nat.lt_succ_self _), Nat.ne_of_gt ll⟩
  refine wpAny_pyIter_list hl1 fun R1 hR => ?_
  refine fillS (A := A.in1.in1) (xs := xs) ((Walks.list (show A.in1.in1.in1.handled = none by simp [hh]) _ l n1 items).toS) s.heap.objs.size n2 hz (by omega)
    (fun i v hv => SS.strs_at hi i v (by rw [Array.getElem?_toList]; exact hv)) items.size 0 _ (by omega) (Nat.zero_le _) ⟨⟨_, Heap.get?_push_size _ rfl, rfl, rfl⟩, hl1.push _⟩
    (SetOf_congr ((setObjOf_fresh (knd := PySem.strKind prog w) led).setOf get2_push (by unfold scanBound; omega)) (fun _ => rfl) rfl) fun s1 hm hS => ?_
  rw [← hz] at hS
  exact fill_end (led := led) rfl (fun b hb => by simpa using hb) hR hm hS
theorem set_text {x : Str} {t : Tok} {Q : Value → Shared → Prop} (hh : A.handled = none) (few : x.cps.size + 1 < scanBound)
    (fin : ∀ (h' : Heap) (tk : Nat), h'.SetOf (PySem.strKind prog w) s.heap.objs.size (fun z => ((x.cps.toList.map fun k => (⟨#[k]⟩ : Str)).take (x.cps.toList.map fun k => (⟨#[k]⟩ : Str)).length).any (· == z)) (cntL ((x.cps.toList.map fun k => (⟨#[k]⟩ : Str)).take (x.cps.toList.map fun k => (⟨#[k]⟩ : Str)).length)) → (∀ b o, s.heap.get? b = some o → h'.get? b = some o) →
      Q (.ref s.heap.objs.size) { s with heap := h', toks := tk }) : wpAny (model prog w) A (call (.type "set") [.str x t]) Q E s := by
  generalize hx : (x.cps.toList.map fun k => (⟨#[k]⟩ : Str)) = xs at fin
  have hz : xs.length = x.cps.size := by rw [← hx, List.length_map, Array.length_toList]
  refine set_call (T := "str") (fun h k => rfl) PySem.F.sub_str_set PySem.F.sub_str_frozenset (by decide) (fun led E1 => ?_) fin
  have z1 : (s.heap.push (set0 led)).objs.size = s.heap.objs.size + 1 := Heap.size_push ..
  have n2 : s.heap.objs.size ∉ [(s.heap.push (set0 led)).objs.size] := by
    rw [z1, List.mem_singleton]
    exact Nat.ne_of_lt (Nat.lt_succ_self _)
  refine wpAny_pyIter_str fun o St0 W st R1 hR => ?_
  refine fillS (A := A.in1.in1) (xs := xs) (W A.in1.in1.in1 (by simp [hh])).toS s.heap.objs.size n2 hz (by omega)
    (fun i v hv => ?_) x.cps.size 0 _ (by omega) (Nat.zero_le _) st
    (SetOf_congr ((setObjOf_fresh (knd := PySem.strKind prog w) led).setOf get2_push (by unfold scanBound; omega)) (fun _ => rfl) rfl) fun s1 hm hS => ?_
  · obtain ⟨c, u, hc, rfl⟩ := hv
    refine ⟨u, ?_⟩
    rw [← hx, List.getD_eq_getElem?_getD, List.getElem?_map, Array.getElem?_toList, hc]; rfl
  · rw [← hz] at hS
    exact fill_end (led := led) rfl (fun b hb => by simpa using hb) hR hm hS
end
/-! len(set(..)) of a list of texts, or of a text -/
/-- the texts that a value gives -/
def TxV (K : Kx) (H : Hp) (x : V) (xs : List Str) : Prop := (∃ l, x = .ref l ∧ SqL K H l (xs.map V.str)) ∨ ∃ z : Str, x = .str z ∧ xs = z.cps.toList.map fun k => (⟨#[k]⟩ : Str)
def tLenSetA (K : Kx) (ta : TE) : TE := fun σ H Q => ta σ H fun x H1 => ∃ xs : List Str, TxV K H1 x xs ∧ xs.length ≤ 1000 ∧ Q (.int (cntL xs : Nat)) H1
theorem pe_lenSetA {X : Cx} {a : Expr} {ta : TE} {p p2 q pos : Pos} (hc : X.calm = true) (hg : Gl X "len") (hm : X.mg "len" = none) (hg2 : Gl X "set") (hm2 : X.mg "set" = none) (ha : PE X a ta)
    (na : starEach [a] X.env = (false, eval a X.env) :: starEach [] X.env := by rfl) : PE X (.Call (.Name "len" p) [.Call (.Name "set" p2) [a] [] q] [] pos) (tLenSetA X.kx ta) := by
  refine ⟨fun pins s σ H Q I h => Call_ (ld_blt I hg hm boot_len (PyProof.Rows.callWith_builtin1 (PyProof.Rows.args_cons (Call_ (ld_blt I hg2 hm2 boot_set (PyProof.Rows.callWith_type1 (PyProof.Rows.args_cons (thn (ha.run pins s σ H _ I h) fun v s1 z => PyProof.Rows.args_nil ?_) na) na rfl))) rfl) rfl rfl))⟩
  obtain ⟨x, H1, I1, r1, xs, hx, few, q1⟩ := z
  have few2 : xs.length + 1 < scanBound := by unfold scanBound; omega
  have fin : ∀ (h' : Heap) (tk : Nat), h'.SetOf (PySem.strKind X.prog X.w) s1.heap.objs.size (fun z => (xs.take xs.length).any (· == z)) (cntL (xs.take xs.length)) → (∀ b o, s1.heap.get? b = some o → h'.get? b = some o) →
      wpAny (model X.prog X.w) X.A (spliced (backTo pos (starEach [] X.env))) (fun vs s2 => wpAny (model X.prog X.w) X.A (call (.builtin "len") (Value.ref s1.heap.objs.size :: vs)) (EP X pins σ Q) X.xe s2) X.xe { s1 with heap := h', toks := tk } := fun h' tk hS hk => by
    refine PyProof.Rows.args_nil ?_
    rw [List.take_length] at hS
    have cl := cntL_le xs
    obtain ⟨o, es, ep, t, ho, hex, hd, _, _, _, hf, hn⟩ := hS
    have I2 : Inv X pins σ H1 { s1 with heap := h', toks := tk } := I1.kept hk
    exact call_len_set ho hex hd hf (by rw [hn]; omega) ⟨.int (cntL xs : Nat), H1, I2.tok _, ⟨_, by rw [hn]⟩, q1⟩
  rcases hx with ⟨l, rfl, hq⟩ | ⟨z, rfl, rfl⟩
  · obtain rfl : v = Value.ref l := r1
    obtain ⟨its, r, pl, hz⟩ := I1.list hq
    exact set_strs (I1.ok.hd hc) pl.isList (by simpa using strsAre_of r) few2 fin
  · obtain ⟨t, rfl⟩ := r1
    rw [List.length_map, Array.length_toList] at few2
    exact set_text (I1.ok.hd hc) few2 fin
def dLenSet (da : Dn) : Dn := fun ρ s => (da ρ s).bind fun p => (match p.1 with
  | .lst xs => strsOf xs
  | .str z => some (z.cps.toList.map fun k => (⟨#[k]⟩ : Str))
  | _ => none).bind fun xs => if xs.length ≤ 1000 then some (.int (cntL xs : Nat), p.2) else none
theorem sn_lenSet {K : Kx} {te : TE} {da : Dn} (h1 : SndE K te da) : SndE K (tLenSetA K te) (dLenSet da) := fun c I H σ ρ s d s' e h Q q => by
  obtain ⟨⟨x, s1⟩, ha, h⟩ := bind_some_of h
  obtain ⟨xs, hx, h⟩ := bind_some_of h
  split at h
  · rename_i hl
    cases h
    refine h1 _ _ _ _ _ _ _ _ e ha _ fun v I1 H1 g1 w1 r1 => ⟨xs, ?_, hl, q _ I1 H1 g1 w1 (.int _)⟩
    cases r1 with
    | @lst a vs _ hI r =>
      have ev := strsOf_rep r hx
      subst ev
      exact .inl ⟨a, rfl, .of (g1.s2.lst hI)⟩
    | str z => cases hx; exact .inr ⟨z, rfl, rfl⟩
    | _ => cases hx
  · cases h
theorem ee_lenSet {X : Cx} {a : Expr} {ta : TE} {da : Dn} {p p2 q pos : Pos} (hc : X.calm = true) (hg : Gl X "len") (hm : X.mg "len" = none) (hg2 : Gl X "set") (hm2 : X.mg "set" = none) (ha : EE X a ta da)
    (na : starEach [a] X.env = (false, eval a X.env) :: starEach [] X.env := by rfl) : EE X (.Call (.Name "len" p) [.Call (.Name "set" p2) [a] [] q] [] pos) (tLenSetA X.kx ta) (dLenSet da) := ⟨pe_lenSetA hc hg hm hg2 hm2 ha.p na, sn_lenSet ha.s⟩
end Dl
end
section
set_option Elab.async false
set_option linter.all false
set_option maxRecDepth 100000
set_option maxHeartbeats 4000000
namespace Dl
open PySem PySem.Spec PyProof.Rows L2 StX RZ
/-! zip of two tuples -/
def zipL (ds es : List D) : List D := List.zipWith (fun x y => D.ktp [x, y]) ds es
theorem yl_zipT {K : Kx} {c : Option Addr} {I : Hp} {a b : Addr} {xs ys : List V} {ds es : List D} (h1 : SqT K I a xs) (r1 : RepL K c I xs ds) (h2 : SqT K I b ys) (r2 : RepL K c I ys es) : Yl K c (ItzT K a b) I (zipL ds es) := fun I2 H2 sb s => by
  have q1 : SqT K H2 a xs := s.sqT (sb_sqT sb h1)
  have q2 : SqT K H2 b ys := s.sqT (sb_sqT sb h2)
  refine ⟨fun i d e => ?_, ⟨xs, ys, q1, q2, ?_⟩⟩
  · unfold zipL at e
    obtain ⟨x, hx, y, hy, rfl⟩ : ∃ x, ds[i]? = some x ∧ ∃ y, es[i]? = some y ∧ d = D.ktp [x, y] := by
      rw [List.getElem?_zipWith] at e
      cases hx : ds[i]? with
      | none => rw [hx] at e; cases e
      | some x =>
        cases hy : es[i]? with
        | none => rw [hx, hy] at e; cases e
        | some y => rw [hx, hy] at e; cases e; exact ⟨x, rfl, y, rfl, rfl⟩
    obtain ⟨v, hv, rv⟩ := r1.get hx
    obtain ⟨u, hu, ru⟩ := r2.get hy
    refine ⟨⟨xs, ys, v, u, q1, q2, hv, hu⟩, fun z H3 hz => ?_⟩
    obtain ⟨T, x', y', rfl, hT, rfl, e1, e2⟩ := hz
    have e1 := e1 xs q1
    have e2 := e2 ys q2
    rw [hv] at e1
    rw [hu] at e2
    cases e1
    cases e2
    have g := Gr.new (o := .tup [v, u]) s hT
    exact ⟨_, g, .ktp (.of upd_same) (.cons ((rv.mono sb).mono g.s1) (.one ((ru.mono sb).mono g.s1)))⟩
  · unfold zipL
    rw [List.length_zipWith, r1.length, r2.length]
    omega
def dZipT (ax : Da) : Da := fun ρ s => (ax ρ s).bind fun p => match p.1 with
  | [d, e] => d.asT.bind fun xs => e.asT.map fun ys => (zipL xs ys, p.2)
  | _ => none
theorem si_zipT {K : Kx} {tx : TA} {ax : Da} (h1 : SndA K tx ax) : SndI K (iZipA K tx) (dZipT ax) := fun c I H σ ρ s xs s' e h R q => by
  obtain ⟨⟨x, s1⟩, h2, h⟩ := bind_some_of h
  refine h1 _ _ _ _ _ _ _ _ e h2 _ fun v I1 H1 g1 w1 r1 => ?_
  split at h
  · rename_i d f hd
    have hd : x = [d, f] := hd
    subst hd
    obtain ⟨ds, h3, h⟩ := bind_some_of h
    obtain ⟨es, h4, h⟩ := map_some_of h
    cases h
    cases r1 with
    | cons ra r => cases r with
      | cons rb r =>
        cases r
        obtain ⟨a, vs, rfl, ha, rv⟩ := ra.asT h3
        obtain ⟨b, us, rfl, hb, ru⟩ := rb.asT h4
        exact ⟨a, b, vs, us, rfl, .inr ⟨g1.s2.sqT ha, g1.s2.sqT hb, q _ I1 H1 g1 w1 (yl_zipT ha rv hb ru)⟩⟩
  · cases h
theorem ei_zipT {X : Cx} {e e2 : Expr} {tx : TA} {ax : Da} {p pos tpos : Pos} {elts : List Expr} {kk : Nat} (hg : Gl X "zip") (hm : X.mg "zip" = none) (ha : EA X [e, e2] tx ax) (hs : starEach [e, e2] X.env = (false, eval e X.env) :: starEach [e2] X.env := by rfl) (hpl : (backTo pos (starEach [e2] X.env)).any (fun z => z.1) = false := by rfl) :
    EI X (.Tuple elts kk tpos) (.Call (.Name "zip" p) [e, e2] [] pos) (iZipA X.kx tx) (dZipT ax) := ⟨pi_zipA hg hm ha.p hs hpl, si_zipT ha.s⟩
end Dl
end
section
set_option Elab.async false
set_option linter.all false
set_option maxRecDepth 100000
set_option maxHeartbeats 4000000
namespace Dl
open PySem PySem.Spec PyProof.Rows L2 StX
/-! a comprehension of two fors -/
def fgS : Sl → Sl
  | .ow _ => .un
  | x => x
/-- what is owned is left out -/
def forget (ρ : List Sl) : List Sl := ρ.map fgS
section
variable {K : Kx} {c : Option Addr} {I H I' H' : Hp} {s s' : Tau}
theorem SlL.fgt (sb : Sb I I') : ∀ {σ : L2.St} {ρ : List Sl}, SlL K c I H σ ρ → SlL K c I' H' σ (forget ρ)
  | _, _, .nil => .nil
  | _, _, .cons (.un o) r => .cons (.un o) (SlL.fgt sb r)
  | _, _, .cons (.im a) r => .cons (.im (a.mono sb)) (SlL.fgt sb r)
  | _, _, .cons (.ow a) r => .cons (.un _) (SlL.fgt sb r)
theorem fgt_im {ρ : List Sl} {i : Nat} {d : D} (h : (forget ρ)[i]? = some (Sl.ow d)) : False := by
  unfold forget at h
  rw [List.getElem?_map] at h
  obtain ⟨x, _, hx⟩ := map_some_of h
  cases x <;> cases hx
theorem Ec.fgt {σ : L2.St} {ρ : List Sl} (e : Ec K c I H σ ρ s) (sb : Sb I I') (s2 : Sub I' H') (w : DW K c s' I' H') : Ec K c I' H' σ (forget ρ) s' :=
  ⟨s2, w, e.sl.fgt sb, fun i j p d e _ _ _ h _ => fgt_im h⟩
end
def lc2Go (g : Dg) (di1 : Da) (g1 : Dg) (de : Dn) (vs1 : List Nat) (ρ : List Sl) : List D → Tau → Option (List D × Tau)
  | [], s => some ([], s)
  | x :: xs, s => (g x ρ).bind fun ρ1 => (di1 ρ1 s).bind fun p => (lcGo g1 dYes de (wipeD (forget ρ1) vs1) p.1 p.2).bind fun r => (lc2Go g di1 g1 de vs1 ρ xs r.2).map fun t => (r.1 ++ t.1, t.2)
def dLc2 (di : Da) (g : Dg) (di1 : Da) (g1 : Dg) (de : Dn) (vs vs1 : List Nat) : Dn := fun ρ s => (di ρ s).bind fun p => (lc2Go g di1 g1 de vs1 (wipeD (forget ρ) vs) p.1 p.2).bind fun r => if r.1.length ≤ 1000000 then some (.lst r.1, r.2) else none
theorem sn_lc2 {K : Kx} {wi wi1 : TI} {di di1 : Da} {g g1 : TG} {dg dg1 : Dg} {js js1 vs vs1 : List Nat} {te : TE} {de : Dn} (hi : SndI K wi di) (hg : SndG K g dg js) (hj : ∀ k ∈ js, k ∈ vs) (hi1 : SndI K wi1 di1) (hg1 : SndG K g1 dg1 js1) (hj1 : ∀ k ∈ js1, k ∈ vs1) (he : SndE K te de) :
    SndE K (tLc2 wi g tYes wi1 g1 tYes te vs vs1) (dLc2 di dg di1 dg1 de vs vs1) := fun c I H σ ρ s d s' e h Q q => by
  obtain ⟨⟨xs, s1⟩, h1, h⟩ := bind_some_of h
  obtain ⟨⟨ys, s2⟩, h2, h⟩ := bind_some_of h
  split at h
  · rename_i hlen
    have hlen : ys.length ≤ 1000000 := hlen
    cases h
    refine hi _ _ _ _ _ _ _ _ e h1 _ fun J I1 H1 ga w1 yl => fun Dd hD => ?_
    have cD : c ≠ some Dd := fun z => by
      obtain ⟨_, sc, z2, _⟩ := w1 Dd z
      rw [hD] at z2; cases z2
    have hI := ga.s2.free hD
    have fr : ∀ {acc : List V} {Ia Ha Ib Hb : Hp}, Gr c Ia Ha Ib Hb → Ia Dd = none → Ha Dd = some (.lst acc) → Ib Dd = none ∧ Hb Dd = some (.lst acc) := fun {acc Ia Ha Ib Hb} gg z1 z2 => by
      refine ⟨?_, gg.kp.get cD z2 nt_lst⟩
      cases qq : Ib Dd with
      | none => rfl
      | some o =>
        rcases gg.nw Dd (by rw [qq]; simp) with z | z
        · exact absurd z1 z
        · rw [z2] at z; cases z
    refine ⟨fun i m H' => m = xs.length - i ∧ i ≤ xs.length ∧ ∃ I' acc pre rest s3, (Gr c I1 H1 I' H' ∧ I' Dd = none ∧ DW K c s3 I' H' ∧ H' Dd = some (.lst acc) ∧ RepL K c I' acc pre) ∧ lc2Go dg di1 dg1 de vs1 (wipeD (forget ρ) vs) (xs.drop i) s3 = some (rest, s2) ∧ pre ++ rest = ys, ?_, ?_⟩
    · have sx : Sub I1 (upd H1 Dd (.lst [])) := ga.s2.updH hI
      refine ⟨xs.length, by simp, Nat.zero_le _, I1, [], [], ys, s1, ⟨⟨.refl _, sx, (Kp.refl _ _).updH hD, fun a z => .inl z⟩, hI, fun r hr => ?_, upd_same, .nil⟩, by simpa using h2, rfl⟩
      obtain ⟨z1, sc, z2, z3⟩ := w1 r hr
      exact ⟨z1, sc, by rw [upd_ne (ne_of_none z2 hD)]; exact z2, z3⟩
    · rintro i m H' ⟨rfl, hle, I', acc, pre, rest, s3, ⟨g', hID, w', hDl, racc⟩, hgo, hy⟩
      obtain ⟨y1, y2⟩ := yl I' H' g'.s1 g'.s2
      by_cases hlt : i < xs.length
      · obtain ⟨go, yld⟩ := y1 i xs[i] (List.getElem?_eq_getElem hlt)
        rw [List.drop_eq_getElem_cons hlt] at hgo
        obtain ⟨ρ1, hx, hgo⟩ := bind_some_of hgo
        obtain ⟨⟨zs, s4⟩, hz, hgo⟩ := bind_some_of hgo
        obtain ⟨⟨r1, s5⟩, hr, hgo⟩ := bind_some_of hgo
        obtain ⟨⟨rest', s6⟩, hgo2, hq⟩ := map_some_of hgo
        cases hq
        refine .inr ⟨go, fun H'' => ∃ I'' acc pre s3, (Gr c I1 H1 I'' H'' ∧ I'' Dd = none ∧ DW K c s3 I'' H'' ∧ H'' Dd = some (.lst acc) ∧ RepL K c I'' acc pre) ∧ lc2Go dg di1 dg1 de vs1 (wipeD (forget ρ) vs) (xs.drop (i + 1)) s3 = some (rest', s6) ∧ pre ++ rest' = ys,
          fun H'' ⟨I'', a1, a2, a3, a4, a5, a6⟩ => ⟨xs.length - (i + 1), by omega, rfl, hlt, I'', a1, a2, rest', a3, a4, a5, a6⟩, fun x H3 hyl => ?_⟩
        obtain ⟨I3, g3, r3⟩ := yld x H3 hyl
        have w3 := w'.gr g3
        have g13 := g'.tr w' (g3.up (c := c))
        have e3 : Ec K c I3 H3 (L2.wipe σ vs) (wipeD (forget ρ) vs) s3 := (e.fgt (ga.s1.trans g13.s1) g13.s2 w3).wipe vs
        obtain ⟨f3, k3⟩ := fr (g3.up (c := c)) hID hDl
        refine hg _ _ _ _ _ _ _ _ _ e3 r3 hx _ fun σ4 e4 l4 n4 _ => ⟨wipe_wipe l4 n4 hj, ?_⟩
        unfold tYes
        dsimp only
        rw [if_pos rfl]
        refine hi1 _ _ _ _ _ _ zs s4 e4 hz _ fun J1 I4 H4 g4 w4 yl1 => ?_
        obtain ⟨f4, k4⟩ := fr g4 f3 k3
        have g14 := g13.tr w3 g4
        refine ⟨fun j k H'' => k = zs.length - j ∧ j ≤ zs.length ∧ ∃ I'' acc' pre' rest1 s7, (Gr c I1 H1 I'' H'' ∧ I'' Dd = none ∧ DW K c s7 I'' H'' ∧ H'' Dd = some (.lst acc') ∧ RepL K c I'' acc' pre') ∧ Sb I4 I'' ∧ lcGo dg1 dYes de (wipeD (forget ρ1) vs1) (zs.drop j) s7 = some (rest1, s5) ∧ pre' ++ (rest1 ++ rest') = ys,
          ⟨zs.length, by simp, Nat.zero_le _, I4, acc, pre, r1, s4, ⟨g14, f4, w4, k4, (racc.mono g3.s1).mono g4.s1⟩, .refl _, by simpa using hr, hy⟩, ?_⟩
        rintro j k H'' ⟨rfl, hle1, I'', acc', pre', rest1, s7, ⟨g'', hID2, w'', hDl2, racc2⟩, sb4, hgo1, hy1⟩
        obtain ⟨z1, z2⟩ := yl1 I'' H'' sb4 g''.s2
        by_cases hlt1 : j < zs.length
        · obtain ⟨go1, yld1⟩ := z1 j zs[j] (List.getElem?_eq_getElem hlt1)
          rw [List.drop_eq_getElem_cons hlt1] at hgo1
          obtain ⟨ρ2, hx1, hgo1⟩ := bind_some_of hgo1
          obtain ⟨⟨b, s8⟩, hb, hgo1⟩ := bind_some_of hgo1
          cases hb
          rw [if_pos (show (true, s7).1 = true from rfl)] at hgo1
          obtain ⟨⟨y, s9⟩, hye, hgo1⟩ := bind_some_of hgo1
          obtain ⟨⟨rest2, s10⟩, hgo3, hr2⟩ := map_some_of hgo1
          cases hr2
          refine .inr ⟨go1, fun H5 => ∃ I'' acc' pre' s7, (Gr c I1 H1 I'' H5 ∧ I'' Dd = none ∧ DW K c s7 I'' H5 ∧ H5 Dd = some (.lst acc') ∧ RepL K c I'' acc' pre') ∧ Sb I4 I'' ∧ lcGo dg1 dYes de (wipeD (forget ρ1) vs1) (zs.drop (j + 1)) s7 = some (rest2, s10) ∧ pre' ++ (rest2 ++ rest') = ys,
            fun H5 ⟨I'', a1, a2, a3, a4, a5, a6, a7⟩ => ⟨zs.length - (j + 1), by omega, rfl, hlt1, I'', a1, a2, rest2, a3, a4, a5, a6, a7⟩, fun x5 H5 hyl5 => ?_⟩
          obtain ⟨I5, g5, r5⟩ := yld1 x5 H5 hyl5
          have w5 := w''.gr g5
          have g15 := g''.tr w'' (g5.up (c := c))
          obtain ⟨f5, k5⟩ := fr (g5.up (c := c)) hID2 hDl2
          have e5 : Ec K c I5 H5 (L2.wipe σ4 vs1) (wipeD (forget ρ1) vs1) s7 := (e4.fgt (g4.s1.trans (sb4.trans g5.s1)) g5.s2 w5).wipe vs1
          refine hg1 _ _ _ _ _ _ _ _ _ e5 r5 hx1 _ fun σ6 e6 l6 n6 _ => ⟨wipe_wipe l6 n6 hj1, ?_⟩
          rw [if_pos rfl]
          refine he _ _ _ _ _ _ _ _ e6 hye _ fun yv I7 H7 g7 w7 r7 => ?_
          obtain ⟨f7, k7⟩ := fr g7 f5 k5
          have g17 := g15.tr w5 g7
          have hlp : acc'.length ≤ 1000000 := by
            have := congrArg List.length hy1
            rw [List.length_append] at this
            rw [racc2.length]
            omega
          refine ⟨acc', k7, Nat.lt_of_le_of_lt hlp (by decide), I7, acc' ++ [yv], pre' ++ [y], s9, ⟨⟨g17.s1, g17.s2.updH f7, g17.kp.updH hD, g17.nw⟩, f7, fun r hr => ?_, upd_same, ((racc2.mono g5.s1).mono g7.s1).app (.one r7)⟩, sb4.trans (g5.s1.trans g7.s1), hgo3, by rw [List.append_assoc]; exact hy1⟩
          · obtain ⟨z1, sc, z2, z3⟩ := w7 r hr
            have n : r ≠ Dd := fun z => cD (by rw [hr, z])
            exact ⟨z1, sc, by rw [upd_ne n]; exact z2, z3⟩
        · have ei : j = zs.length := by omega
          subst ei
          rw [List.drop_length] at hgo1
          cases hgo1
          exact .inl ⟨z2, I'', acc', pre', s5, ⟨g'', hID2, w'', hDl2, racc2⟩, hgo2, hy1⟩
      · have ei : i = xs.length := by omega
        subst ei
        rw [List.drop_length] at hgo
        cases hgo
        rw [List.append_nil] at hy
        subst hy
        refine .inl ⟨y2, ?_⟩
        have sI : Sb I' (upd I' Dd (.lst acc)) := fun a o z => by rw [upd_ne (ne_of_none z hID)]; exact z
        refine q _ (upd I' Dd (.lst acc)) H' (ga.tr w1 ⟨g'.s1.trans sI, g'.s2.updI hID hDl, g'.kp, fun a z => ?_⟩) (fun r hr => ?_) (.lst upd_same (racc.mono sI))
        · by_cases n : a = Dd
          · subst n; exact .inr hD
          · rw [upd_ne n] at z; exact g'.nw a z
        · obtain ⟨z1, sc, z2, z3⟩ := w' r hr
          have n : r ≠ Dd := fun z => cD (by rw [hr, z])
          exact ⟨by rw [upd_ne n]; exact z1, sc, z2, sb_sqL sI z3⟩
  · cases h
section
variable {X : Cx}
structure EIb (X : Cx) (scope : Scope) (tg iter : Expr) (wi : TI) (di : Da) : Prop where
  p : ∀ (s : Shared) (H : Hp) (C : Addr) (cl : List (Str × Addr)) (fp : List Addr), PI (X.blk s H scope (compEnvC scope cl C X.env) fp) tg iter wi
  s : SndI X.kx wi di
theorem eib_mk {scope : Scope} {tg iter : Expr} {wi : Shared → Hp → Addr → List (Str × Addr) → List Addr → TI} {di : Da} (h : ∀ (s : Shared) (H : Hp) (C : Addr) (cl : List (Str × Addr)) (fp : List Addr), EI (X.blk s H scope (compEnvC scope cl C X.env) fp) tg iter (wi s H C cl fp) di) (hg : ∀ (s : Shared) (H : Hp) (C : Addr) (cl : List (Str × Addr)) (fp : List Addr), wi s H C cl fp = wi X.s_0 (fun _ => none) 0 [] [] := by intros; rfl) : EIb X scope tg iter (wi X.s_0 (fun _ => none) 0 [] []) di :=
  ⟨fun s H C cl fp => hg s H C cl fp ▸ (h s H C cl fp).p, (h X.s_0 (fun _ => none) 0 [] []).s⟩
/-- name = [.. for .. in .. for .. in ..] on one line -/
theorem es_lc2 {i : Nat} {y : Str} {py : Pos} {elt tg iter tg1 iter1 : Expr} {scope : Scope} {own : List (Str × Nat)} {vs1 : List Nat} {pos spos : Pos} {wi wi1 : TI} {di di1 : Da} {g g1 : TG} {dg dg1 : Dg} {js js1 : List Nat} {te : TE} {de : Dn} (hc : X.calm = true) (hN : X.N.Nodup) (hy : X.N[i]? = some y) (hyl : X.env.scope.names.lookup y = some .local)
    (hsw : swapsWith (.ListComp elt [⟨tg, iter, [], 0⟩, ⟨tg1, iter1, [], 0⟩] scope pos) (some (.Name y py)) spos.line X.env = pure true) (hi : EI X tg iter wi di) (ok : blkC X.N X.env.scope scope own = true) (hv : ∀ i ∈ vs1, i ∈ own.map (fun z => z.2))
    (hg : EGb X scope tg g dg js) (hi1 : EIb X scope tg1 iter1 wi1 di1) (hg1 : EGb X scope tg1 g1 dg1 js1) (he : EEb X scope elt te de) (hj : ∀ k ∈ js, k ∈ own.map (fun z => z.2) := by decide) (hj1 : ∀ k ∈ js1, k ∈ vs1 := by decide)
    (hs : ∀ x, foldedSetIterable iter X.env x = pure x := by intro _; rfl) (hs1 : ∀ env x, foldedSetIterable iter1 env x = pure x := by intro _ _; rfl) :
    ES X (.Assign [.Name y py] (.ListComp elt [⟨tg, iter, [], 0⟩, ⟨tg1, iter1, [], 0⟩] scope pos) spos) (tAsg (tLc2 wi g tYes wi1 g1 tYes te (own.map (fun z => z.2)) vs1) (gName i)) (dAsg (dLc2 di dg di1 dg1 de (own.map (fun z => z.2)) vs1) (gdName i)) :=
  ⟨ps_setLc2 hc hN hy hyl hsw hi.p (blkOk_by ok) hv hg.p (fun _ _ _ _ _ => pts_nil) hi1.p hg1.p (fun _ _ _ _ _ => pts_nil) he.p hs hs1, ss_asg (sn_lc2 hi.s hg.s hj hi1.s hg1.s hj1 he.s) (sg_name i)⟩
end
end Dl
end
section
set_option Elab.async false
set_option linter.all false
set_option maxRecDepth 100000
set_option maxHeartbeats 4000000
namespace Dl
open PySem PySem.Spec PyProof.Rows L2 StX
/-! zip over any two iterators, walked while the pair given out before is still held -/
section
variable {prog : Program} {w : World} {A : Around} {E : Value → Shared → Prop} {s : Shared} {z TI TO T i1 i2 : Addr} {fp1 fp2 : List Addr} {n1 n2 i : Nat} {P1 P2 : Nat → Value → Prop} {St1 St2 : Nat → Heap → Prop} {f : Bool} {oT : Obj}
theorem zh_item {Q : Value → Shared → Prop} (S : ZipSep2 z TI TO i1 i2 fp1 fp2) (D1 : Draws prog w A i1 fp1 n1 P1 St1) (D2 : Draws prog w A i2 fp2 n2 P2 St2) (hz : IsZipHeld s.heap z TI TO T f) (gT : s.heap.get? T = some oT)
    (hI : IsTupOf2 s.heap TI (.ref i1) (.ref i2)) (a1 : St1 i s.heap) (a2 : St2 i s.heap) (b1 : i < n1) (b2 : i < n2)
    (q : ∀ x y h' tk, P1 i x → P2 i y → IsZipHeld h' z TI TO T true → St1 (i + 1) h' → St2 (i + 1) h' → IsTupOf2 h' s.heap.objs.size x y →
      (∀ c o, c ≠ z → c ≠ i1 → c ≠ i2 → s.heap.get? c = some o → h'.get? c = some o) → Q (.ref s.heap.objs.size) { s with heap := h', toks := tk }) :
    wpAny (model prog w) A (Builtin.«zip.__next__» ⟨[.ref z], []⟩) (fun fin s' => ∃ v, fin = .done (.ret v) ∧ Q v s') E s := by
  obtain ⟨hp, g, d, tk0, os⟩ := s
  show wpAny _ _ (field (.ref z) 2 >>= _) _ _ _
  refine wpAny_bind (wpAny_field hz rfl (x := .bool false) rfl ?_)
  show wpAny _ _ (field (.ref z) 3 >>= _) _ _ _
  refine wpAny_bind (wpAny_field hz rfl (x := .ref TI) rfl (wpAny_bind (wpAny_seqItems hI rfl ?_)))
  show wpAny _ _ (Builtin.SmallTypes.ownedTupleIsFree (.ref z) >>= _) _ _ _
  refine wpAny_bind (wpAny_tupleHeld_zip hz gT fun h1 hz1 s1 => ?_)
  replace s1 : Heap.SameBut z hp h1 := s1
  simp only [Bool.false_eq_true, if_false]
  refine wpAny_bind ?_
  rw [← Array.forIn_toList]
  simp only [List.forIn_cons, List.forIn_nil]
  refine wpAny_bind (wpAny_bind (wpAny_holding ?_))
  show wpAny _ _ (Builtin.SmallTypes.nextOf (.ref i1) >>= _) _ _ ⟨h1, g, d, tk0, os⟩
  refine wpAny_bind (D1.item i _ _ _ b1 (D1.over a1 s1 S.zf1) fun x h2 tk1 px c1 s2 => wpAny_pure (wpAny_pure ?_))
  replace s2 : Heap.SameBut i1 h1 h2 := s2
  refine wpAny_bind (wpAny_bind (wpAny_holding ?_))
  show wpAny _ _ (Builtin.SmallTypes.nextOf (.ref i2) >>= _) _ _ ⟨h2, g, d, tk1, os⟩
  refine wpAny_bind (D2.item i _ _ _ b2 (D2.over (D2.over a2 s1 S.zf2) s2 S.sep1_2) fun y h3 tk2 py c2 s3 => wpAny_pure (wpAny_pure (wpAny_pure ?_)))
  replace s3 : Heap.SameBut i2 h2 h3 := s3
  show wpAny _ _ (newTuple [x, y] >>= _) _ _ _
  refine wpAny_bind (wpAny_newTuple (wpAny_pure ⟨_, rfl, ?_⟩))
  have sz : h3.objs.size = hp.objs.size := by rw [s3.1, s2.1, s1.1]
  have hz3 : IsZipHeld h3 z TI TO T true := s3.extBut _ _ S.zi2 (s2.extBut _ _ S.zi1 hz1)
  have e1 : St1 (i + 1) h3 := D1.over c1 s3 S.sep2_1
  show Q (.ref h3.objs.size) ⟨h3.push { cls := .type "tuple", data := .seq #[x, y] }, g, d, tk2, os⟩
  have up : ∀ c o, h3.get? c = some o → (h3.push { cls := .type "tuple", data := .seq #[x, y] }).get? c = some o := fun c o e => Heap.get?_push_of_some _ e
  have np : IsTupOf2 (h3.push { cls := .type "tuple", data := .seq #[x, y] }) h3.objs.size x y := Heap.get?_push_size _ rfl
  rw [sz] at np ⊢
  exact q x y _ tk2 px py (up _ _ hz3) (D1.frame _ _ _ e1 fun b _ o e => up b o e) (D2.frame _ _ _ c2 fun b _ o e => up b o e) np fun c o n1 n2 n3 e => up c o (s3.extBut _ _ n3 (s2.extBut _ _ n2 (s1.extBut _ _ n1 e)))
theorem zh_end {Q : PySem.Fin → Shared → Prop} (S : ZipSep2 z TI TO i1 i2 fp1 fp2) (D1 : Draws prog w A i1 fp1 n1 P1 St1) (D2 : Draws prog w A i2 fp2 n2 P2 St2) (hz : IsZipHeld s.heap z TI TO T f) (gT : s.heap.get? T = some oT)
    (hI : IsTupOf2 s.heap TI (.ref i1) (.ref i2)) (a1 : St1 i s.heap) (a2 : St2 i s.heap) (b1 : i ≤ n1) (b2 : i ≤ n2) (he : i = n1 ∨ i = n2)
    (q : ∀ h' tk e, (∀ c o, c ≠ z → c ≠ i1 → c ≠ i2 → s.heap.get? c = some o → h'.get? c = some o) → (∃ o, h'.get? e = some o ∧ o.cls = .type "StopIteration") → E (.ref e) { s with heap := h', toks := tk }) :
    wpAny (model prog w) A (Builtin.«zip.__next__» ⟨[.ref z], []⟩) Q E s := by
  obtain ⟨hp, g, d, tk0, os⟩ := s
  show wpAny _ _ (field (.ref z) 2 >>= _) _ _ _
  refine wpAny_bind (wpAny_field hz rfl (x := .bool false) rfl ?_)
  show wpAny _ _ (field (.ref z) 3 >>= _) _ _ _
  refine wpAny_bind (wpAny_field hz rfl (x := .ref TI) rfl (wpAny_bind (wpAny_seqItems hI rfl ?_)))
  show wpAny _ _ (Builtin.SmallTypes.ownedTupleIsFree (.ref z) >>= _) _ _ _
  refine wpAny_bind (wpAny_tupleHeld_zip hz gT fun h1 hz1 s1 => ?_)
  replace s1 : Heap.SameBut z hp h1 := s1
  simp only [Bool.false_eq_true, if_false]
  refine wpAny_bind ?_
  rw [← Array.forIn_toList]
  simp only [List.forIn_cons, List.forIn_nil]
  refine wpAny_bind (wpAny_bind (wpAny_holding ?_))
  show wpAny _ _ (Builtin.SmallTypes.nextOf (.ref i1) >>= _) _ _ ⟨h1, g, d, tk0, os⟩
  by_cases hl : i < n1
  · have e2 : i = n2 := by omega
    refine wpAny_bind (D1.item i _ _ _ hl (D1.over a1 s1 S.zf1) fun x h2 tk1 px c1 s2 => wpAny_pure (wpAny_pure ?_))
    replace s2 : Heap.SameBut i1 h1 h2 := s2
    refine wpAny_bind (wpAny_bind (wpAny_holding ?_))
    show wpAny _ _ (Builtin.SmallTypes.nextOf (.ref i2) >>= _) _ _ ⟨h2, g, d, tk1, os⟩
    refine wpAny_bind (D2.done ⟨h2, g, d, tk1, os⟩ _ _ (by rw [← e2]; exact D2.over (D2.over a2 s1 S.zf2) s2 S.sep1_2) fun h3 e s3 he => ?_)
    exact q h3 tk1 e (fun c o n1 n2 n3 x => s3 _ _ n3 (s2.extBut _ _ n2 (s1.extBut _ _ n1 x))) he
  · have e1 : i = n1 := by omega
    refine wpAny_bind (D1.done ⟨h1, g, d, tk0, os⟩ _ _ (by rw [← e1]; exact D1.over a1 s1 S.zf1) fun h2 e s2 he => ?_)
    exact q h2 tk0 e (fun c o n1 n2 n3 x => s2 _ _ n2 (s1.extBut _ _ n1 x)) he
theorem zh_next {Q : Option Value → Shared → Prop} (S : ZipSep2 z TI TO i1 i2 fp1 fp2) (D1 : Draws prog w A.in1 i1 fp1 n1 P1 St1) (D2 : Draws prog w A.in1 i2 fp2 n2 P2 St2) (hz : IsZipHeld s.heap z TI TO T f) (gT : s.heap.get? T = some oT)
    (hI : IsTupOf2 s.heap TI (.ref i1) (.ref i2)) (a1 : St1 i s.heap) (a2 : St2 i s.heap) (b1 : i < n1) (b2 : i < n2)
    (q : ∀ x y h' tk, P1 i x → P2 i y → IsZipHeld h' z TI TO T true → St1 (i + 1) h' → St2 (i + 1) h' → IsTupOf2 h' s.heap.objs.size x y →
      (∀ c o, c ≠ z → c ≠ i1 → c ≠ i2 → s.heap.get? c = some o → h'.get? c = some o) → Q (some (.ref s.heap.objs.size)) { s with heap := h', toks := tk }) : wpAny (model prog w) A (pyNext (.ref z)) Q E s := by
  have ty : s.TypeIs (.ref z) "zip" := ⟨_, hz, rfl⟩
  unfold pyNext
  refine wpAny_bind (wpAny_attempt (wpAny_callSpecial?_slot (name := Str.ofString "__next__") ty F.slot_zip_next (wpAny_call_entry F.slot_zip_next ty F.entry_zip_next (zh_item S D1 D2 hz gT hI a1 a2 b1 b2 fun x y h' tk p1 p2 p3 p4 p5 p6 p7 => ?_) (F.args_zip_next_1 _))))
  exact wpAny_pure (q x y h' tk p1 p2 p3 p4 p5 p6 p7)
theorem zh_done {Q : Option Value → Shared → Prop} (S : ZipSep2 z TI TO i1 i2 fp1 fp2) (D1 : Draws prog w A.in1 i1 fp1 n1 P1 St1) (D2 : Draws prog w A.in1 i2 fp2 n2 P2 St2) (hz : IsZipHeld s.heap z TI TO T f) (gT : s.heap.get? T = some oT)
    (hI : IsTupOf2 s.heap TI (.ref i1) (.ref i2)) (a1 : St1 i s.heap) (a2 : St2 i s.heap) (b1 : i ≤ n1) (b2 : i ≤ n2) (he : i = n1 ∨ i = n2)
    (q : ∀ h' tk, (∀ c o, c ≠ z → c ≠ i1 → c ≠ i2 → s.heap.get? c = some o → h'.get? c = some o) → Q none { s with heap := h', toks := tk }) : wpAny (model prog w) A (pyNext (.ref z)) Q E s := by
  have ty : s.TypeIs (.ref z) "zip" := ⟨_, hz, rfl⟩
  unfold pyNext
  refine wpAny_bind (wpAny_attempt (wpAny_callSpecial?_slot (name := Str.ofString "__next__") ty F.slot_zip_next (wpAny_call_entry F.slot_zip_next ty F.entry_zip_next (zh_end S D1 D2 hz gT hI a1 a2 b1 b2 he fun h' tk e k x => ?_) (F.args_zip_next_1 _))))
  obtain ⟨o, ho, hc⟩ := x
  exact wpAny_bind (wpAny_isInstance (T := "StopIteration") (b := true) ⟨o, ho, hc⟩ isSubtype_stop (wpAny_pure (q h' tk k)))
end
/-- zip over any two, as the argument of dict(..) -/
theorem zipArg {prog : Program} {w : World} {z TI TO i1 i2 : Addr} {fp1 fp2 : List Addr} {n1 n2 : Nat} {P1 P2 : Nat → Value → Prop} {St1 St2 : Nat → Heap → Prop} (S : ZipSep2 z TI TO i1 i2 fp1 fp2)
    (D1 : ∀ A : Around, A.handled = none → Draws prog w A i1 fp1 n1 P1 St1) (D2 : ∀ A : Around, A.handled = none → Draws prog w A i2 fp2 n2 P2 St2) (L1 : ∀ i h, St1 i h → ∀ b ∈ fp1, ∃ o, h.get? b = some o) (L2 : ∀ i h, St2 i h → ∀ b ∈ fp2, ∃ o, h.get? b = some o) :
    PairArg prog w "zip" z (z :: TI :: TO :: (fp1 ++ fp2)) [z, TO, i1, i2] (min n1 n2) (fun i k v => P1 i k ∧ P2 i v)
      (fun h => IsZip h z TI TO .none ∧ IsTupOf2 h TI (.ref i1) (.ref i2) ∧ (∃ a b, IsTupOf2 h TO a b) ∧ St1 0 h ∧ St2 0 h) where
  type := fun s ok => ⟨_, ok.1, rfl⟩
  notDict := by decide
  keep := fun h h' ok k => by
    obtain ⟨hz, hI, ⟨a, b, hO⟩, a1, a2⟩ := ok
    exact ⟨k _ _ hz, k _ _ hI, ⟨a, b, k _ _ hO⟩, (D1 callerA rfl).frame _ _ _ a1 fun b _ o e => k b o e, (D2 callerA rfl).frame _ _ _ a2 fun b _ o e => k b o e⟩
  there := fun h ok b hb => by
    obtain ⟨hz, hI, ⟨a, c, hO⟩, a1, a2⟩ := ok
    rcases List.mem_cons.mp hb with rfl | hb
    · exact ⟨_, hz⟩
    rcases List.mem_cons.mp hb with rfl | hb
    · exact ⟨_, hI⟩
    rcases List.mem_cons.mp hb with rfl | hb
    · exact ⟨_, hO⟩
    rcases List.mem_append.mp hb with hb | hb
    · exact L1 _ _ a1 b hb
    · exact L2 _ _ a2 b hb
  sub := fun b hb => by
    have e : b = z ∨ b = TO ∨ b = i1 ∨ b = i2 := by simpa using hb
    rcases e with rfl | rfl | rfl | rfl
    · exact List.mem_cons_self
    · exact List.mem_cons_of_mem _ (List.mem_cons_of_mem _ List.mem_cons_self)
    · exact List.mem_cons_of_mem _ (List.mem_cons_of_mem _ (List.mem_cons_of_mem _ (List.mem_append_left _ S.mem1)))
    · exact List.mem_cons_of_mem _ (List.mem_cons_of_mem _ (List.mem_cons_of_mem _ (List.mem_append_right _ S.mem2)))
  noKeys := fun A s Q E hA ok h => getAttrOr_miss_zip ok.1 rfl rfl rfl zip_no_keys (by decide +kernel) hA h
  iter := fun A s d Q E hA ok hd hdf h => by
    obtain ⟨hz, hI, ⟨a, b, hO⟩, a1, a2⟩ := ok
    have dz : d ≠ z := fun e => hdf (by rw [e]; exact List.mem_cons_self)
    have dI : d ≠ TI := fun e => hdf (by rw [e]; exact List.mem_cons_of_mem _ List.mem_cons_self)
    have dO : d ≠ TO := fun e => hdf (by rw [e]; exact List.mem_cons_of_mem _ (List.mem_cons_of_mem _ List.mem_cons_self))
    have d1 : ∀ b ∈ fp1, b ≠ d := fun b hb e => hdf (by rw [← e]; exact List.mem_cons_of_mem _ (List.mem_cons_of_mem _ (List.mem_cons_of_mem _ (List.mem_append_left _ hb))))
    have d2 : ∀ b ∈ fp2, b ≠ d := fun b hb e => hdf (by rw [← e]; exact List.mem_cons_of_mem _ (List.mem_cons_of_mem _ (List.mem_cons_of_mem _ (List.mem_append_right _ hb))))
    have hA1 : A.in1.handled = none := by simp [hA]
    refine wpAny_pyIter_zip hz (h z [z, TO, i1, i2] (fun i h => IsTupOf2 h TI (.ref i1) (.ref i2) ∧ St1 i h ∧ St2 i h ∧
      ((IsZip h z TI TO .none ∧ ∃ a b, IsTupOf2 h TO a b) ∨ ∃ T f oT, IsZipHeld h z TI TO T f ∧ h.get? T = some oT ∧ T ≠ z ∧ T ≠ i1 ∧ T ≠ i2 ∧ T ≠ d)) s.heap s.toks ?_ ⟨hI, a1, a2, .inl ⟨hz, a, b, hO⟩⟩ (fun _ _ e => e) fun b hb => .inl hb)
    exact {
      off := fun hm => by
        have e : d = z ∨ d = TO ∨ d = i1 ∨ d = i2 := by simpa using hm
        rcases e with e | e | e | e
        · exact dz e
        · exact dO e
        · exact d1 i1 S.mem1 e.symm
        · exact d2 i2 S.mem2 e.symm
      frame := fun i h1 h2 st k => by
        obtain ⟨hI, a1, a2, hz⟩ := st
        refine ⟨k _ _ (Ne.symm dI) hI, (D1 A hA).frame _ _ _ a1 fun b hb o e => k b o (d1 b hb) e, (D2 A hA).frame _ _ _ a2 fun b hb o e => k b o (d2 b hb) e, ?_⟩
        rcases hz with ⟨hz, a, b, hO⟩ | ⟨T, f, oT, hz, gT, r1, r2, r3, r4⟩
        · exact .inl ⟨k _ _ (Ne.symm dz) hz, a, b, k _ _ (Ne.symm dO) hO⟩
        · exact .inr ⟨T, f, oT, k _ _ (Ne.symm dz) hz, k _ _ r4 gT, r1, r2, r3, r4⟩
      item := fun i s1 Q1 E1 hi st hds hQ => by
        obtain ⟨hI, a1, a2, hz⟩ := st
        have b1 : i < n1 := Nat.lt_of_lt_of_le hi (Nat.min_le_left ..)
        have b2 : i < n2 := Nat.lt_of_lt_of_le hi (Nat.min_le_right ..)
        have lt : ∀ {c o}, s1.heap.get? c = some o → s1.heap.objs.size ≠ c := fun e => Nat.ne_of_gt (Heap.lt_size e)
        have m1 : s1.heap.objs.size ≠ i1 := let ⟨_, e⟩ := (D1 A hA).live _ _ a1; lt e
        have m2 : s1.heap.objs.size ≠ i2 := let ⟨_, e⟩ := (D2 A hA).live _ _ a2; lt e
        rcases hz with ⟨hz, a, b, hO⟩ | ⟨T, f, oT, hz, gT, r1, r2, r3, r4⟩
        · refine wpAny_pyNext_zipD2_item S (D1 _ hA1) (D2 _ hA1) hz hI hO a1 a2 b1 b2 fun x y h' tk p1 p2 q1 q2 q3 q4 q5 q6 k => ?_
          refine hQ s1.heap.objs.size x y h' tk ⟨p1, p2⟩ (.inl ⟨_, q5, rfl, _, rfl⟩) ⟨k _ _ S.TIz S.TITO S.TIi1 S.TIi2 hI, q3, q4, .inr ⟨s1.heap.objs.size, false, _, q1, q5, lt hz, m1, m2, Nat.ne_of_gt hds⟩⟩ fun c o hc e => ?_
          simp only [List.mem_cons, List.not_mem_nil, or_false, not_or] at hc
          exact k c o hc.1 hc.2.1 hc.2.2.1 hc.2.2.2 e
        · refine zh_next S (D1 _ hA1) (D2 _ hA1) hz gT hI a1 a2 b1 b2 fun x y h' tk p1 p2 q1 q3 q4 q5 k => ?_
          refine hQ s1.heap.objs.size x y h' tk ⟨p1, p2⟩ (.inl ⟨_, q5, rfl, _, rfl⟩) ⟨k _ _ S.TIz S.TIi1 S.TIi2 hI, q3, q4, .inr ⟨T, true, oT, q1, k _ _ r1 r2 r3 gT, r1, r2, r3, r4⟩⟩ fun c o hc e => ?_
          simp only [List.mem_cons, List.not_mem_nil, or_false, not_or] at hc
          exact k c o hc.1 hc.2.2.1 hc.2.2.2 e
      done := fun s1 Q1 E1 st hQ => by
        obtain ⟨hI, a1, a2, hz⟩ := st
        have e0 : min n1 n2 = n1 ∨ min n1 n2 = n2 := by omega
        rcases hz with ⟨hz, a, b, hO⟩ | ⟨T, f, oT, hz, gT, r1, r2, r3, r4⟩
        · refine wpAny_pyNext_zipD2_end S (D1 _ hA1) (D2 _ hA1) hz hI hO a1 a2 (Nat.min_le_left ..) (Nat.min_le_right ..) e0 fun h' tk k => hQ h' tk fun c o hc e => ?_
          simp only [List.mem_cons, List.not_mem_nil, or_false, not_or] at hc
          exact k c o hc.1 hc.2.1 hc.2.2.1 hc.2.2.2 e
        · refine zh_done S (D1 _ hA1) (D2 _ hA1) hz gT hI a1 a2 (Nat.min_le_left ..) (Nat.min_le_right ..) e0 fun h' tk k => hQ h' tk fun c o hc e => ?_
          simp only [List.mem_cons, List.not_mem_nil, or_false, not_or] at hc
          exact k c o hc.1 hc.2.2.1 hc.2.2.2 e }
end Dl
end
section
set_option Elab.async false
set_option linter.all false
set_option maxRecDepth 100000
set_option maxHeartbeats 4000000
namespace Dl
open PySem PySem.Spec PyProof.Rows L2 StX RZ
/-! dicts with keys that are tuples of texts: told[row], told.get(row, x), dict(zip(rows, answers)) -/
/-- the first value at a key -/
def lookV : List (List Str × Addr) → List V → List Str → Option V
  | k :: ks, v :: vs, x => if k.1 = x then some v else lookV ks vs x
  | [], _, _ => none
  | _ :: _, [], _ => none
section
variable {K : Kx} {c : Option Addr} {I : Hp}
theorem RepT.look : ∀ {ks : List (List Str × Addr)} {vs : List V} {es : List (List Str × D)} {k : List Str} {d : D}, RepT K c I ks vs es → lookD es k = some d → ∃ v, lookV ks vs k = some v ∧ Rep K c I v d
  | _, _, _, _, _, .nil, h => by cases h
  | _, _, _, k, d, .cons (k := k') q a r, h => by
    by_cases e : k' = k
    · subst e
      rename_i v0 d0 _ _ _ _
      have h : some d0 = some d := by simpa [lookD, List.find?_cons] using h
      cases h
      exact ⟨v0, by simp [lookV], a⟩
    · rename_i v0 d0 b0 ks0 vs0 ds0
      have h2 : lookD ds0 k = some d := by
        unfold lookD at h ⊢
        rw [List.find?_cons, decide_eq_false e] at h
        exact h
      obtain ⟨v, h3, h4⟩ := RepT.look r h2
      exact ⟨v, by simp only [lookV]; rw [if_neg e]; exact h3, h4⟩
theorem RepT.none : ∀ {ks : List (List Str × Addr)} {vs : List V} {es : List (List Str × D)} {k : List Str}, RepT K c I ks vs es → lookD es k = Option.none → lookV ks vs k = Option.none
  | _, _, _, _, .nil, h => rfl
  | _, _, _, k, .cons (k := k') q a r, h => by
    by_cases e : k' = k
    · subst e
      simp [lookD, List.find?_cons] at h
    · rename_i v0 d0 b0 ks0 vs0 ds0
      have h2 : lookD ds0 k = Option.none := by
        unfold lookD at h ⊢
        rw [List.find?_cons, decide_eq_false e] at h
        exact h
      simp only [lookV]
      rw [if_neg e]
      exact RepT.none r h2
theorem RepT.sq : ∀ {ks : List (List Str × Addr)} {vs : List V} {es : List (List Str × D)}, RepT K c I ks vs es → ∀ k ∈ ks, SqT K I k.2 (k.1.map V.str)
  | _, _, _, .nil, k, hk => nomatch hk
  | _, _, _, .cons q a r, k, hk => by
    rcases List.mem_cons.mp hk with e | hk
    · subst e; exact q
    · exact RepT.sq r k hk
end
/-- the dict at a, and its keys' objects -/
def DtR (K : Kx) (H : Hp) (a : Addr) (ks : List (List Str × Addr)) (vs : List V) : Prop := H a = some (DTo K.P K.w a ks vs) ∧ ∀ k ∈ ks, SqT K H k.2 (k.1.map V.str)
theorem str_kV (k : List Str) : k.map V.str = (k.map Sum.inr).map kV := by
  rw [List.map_map]; rfl
theorem tk_at {P : Program} {w : World} {h h' : Heap} {ks : List Key} {a : Addr} (x : (tupleKind (mixKind P w)).is h ks a) (k : ∀ o, h.get? a = some o → h'.get? a = some o) : (tupleKind (mixKind P w)).is h' ks a := by
  obtain ⟨o, its, n, h1, h2, h3, h4⟩ := x
  exact ⟨o, its, n, k o h1, h2, h3, h4⟩
section
variable {X : Cx} {pins : List (Addr × Obj)} {σ : L2.St} {H : Hp} {s : Shared} {a b : Addr}
theorem key_sq (I : Inv X pins σ H s) {k : List Str} (q : SqT X.kx H b (k.map V.str)) : (tupleKind (mixKind X.prog X.w)).is s.heap (k.map Sum.inr) b := by
  obtain ⟨its, r, ⟨o, h1, h2, n, h3⟩, _⟩ := I.tuple q
  rw [str_kV] at r
  exact ⟨o, its.toArray, n, h1, h2, h3, by simpa using items_are r⟩
theorem inr_inj : ∀ {k x : List Str}, k.map (Sum.inr : Str → Key) = x.map Sum.inr → k = x
  | [], [], _ => rfl
  | [], _ :: _, h => by simp at h
  | _ :: _, [], h => by simp at h
  | a :: k, b :: x, h => by
    rw [List.map_cons, List.map_cons] at h
    injection h with h1 h2
    rw [Sum.inr.inj h1, inr_inj h2]
theorem far {b N : Nat} (h : b < N) : b ≠ N + 4 ∧ b ≠ N + 3 ∧ b ≠ N ∧ b ≠ N + 1 ∧ b ≠ N + 5 := by omega
theorem look_at {k : List Str} : ∀ {ks : List (List Str × Addr)} {vs : List V} {xs : List (List Key × Addr × Value)}, xs.map (fun x => (x.1, x.2.1)) = ks.map (fun k => (k.1.map Sum.inr, k.2)) → Vals vs (xs.map fun x => x.2.2) →
    RelO (lookV ks vs k) ((atKey xs (k.map Sum.inr)).map fun z => z.2)
  | [], vs, [], _, _ => True.intro
  | [], _, _ :: _, e, _ => by simp at e
  | _ :: _, _, [], e, _ => by simp at e
  | q :: ks, vs, x :: xs, e, r => by
    rw [List.map_cons, List.map_cons] at e
    injection e with e1 e2
    have e3 : x.1 = q.1.map Sum.inr := congrArg (fun z => z.1) e1
    rw [List.map_cons] at r
    cases r with
    | @cons v _ vs _ hv r =>
      by_cases hq : q.1 = k
      · have b1 : atKey (x :: xs) (k.map Sum.inr) = some x.2 := by simp [atKey, List.find?_cons, e3, hq]
        simp only [lookV]
        rw [if_pos hq, b1]
        exact hv
      · have b1 : atKey (x :: xs) (k.map Sum.inr) = atKey xs (k.map Sum.inr) := by
          have n : ¬ x.1 = k.map Sum.inr := fun z => hq (inr_inj (e3.symm.trans z))
          simp [atKey, List.find?_cons, n]
        simp only [lookV]
        rw [if_neg hq, b1]
        exact look_at e2 r
theorem dtr_of (I : Inv X pins σ H s) {ks : List (List Str × Addr)} {vs : List V} (h : DtR X.kx H a ks vs) : (a == sysModules) = false ∧
    ∃ xs, s.heap.DictOfH (tupleKind (mixKind X.prog X.w)) a xs ∧ ∀ k : List Str, RelO (lookV ks vs k) ((atKey xs (k.map Sum.inr)).map fun z => z.2) := by
  obtain ⟨h1, hk⟩ := h
  obtain ⟨⟨hd, hz, xs, e, rv, o, es, ep, g1, g2, g3, g4, g5⟩, _⟩ := I.hok a _ h1
  refine ⟨hd, xs, ⟨o, es, ep, g1, g2, g3, g4, fun x hx => ?_, g5⟩, fun k => look_at e rv⟩
  have hm : (x.1, x.2.1) ∈ ks.map (fun k => (k.1.map Sum.inr, k.2)) := by rw [← e]; exact List.mem_map_of_mem hx
  obtain ⟨q, hq, eq⟩ := List.mem_map.mp hm
  have e1 : x.1 = q.1.map Sum.inr := (congrArg (fun z => z.1) eq).symm
  have e2 : x.2.1 = q.2 := (congrArg (fun z => z.2) eq).symm
  rw [e1, e2]
  exact key_sq I (hk q hq)
/-- iter over a list or a tuple -/
def ItV (K : Kx) (H : Hp) (x : V) (xs : List V) : Prop := ∃ l, x = .ref l ∧ (SqL K H l xs ∨ SqT K H l xs)
theorem itv_begins (I : Inv X pins σ H s) {x : V} {xs : List V} (h : ItV X.kx H x xs) : ∃ (l : Addr) (o : Obj) (B : Heap → Prop) (its : List Value) (St : Addr → Nat → Heap → Prop), x = .ref l ∧ Vals xs its ∧ l < s.heap.objs.size ∧ Begins (.ref l) o B ∧ B s.heap ∧
    (∀ (it : Addr) (A : Around), A.handled = none → l ≠ it → Draws X.prog X.w A it [it, l] its.length (fun i v => its[i]? = some v) (St it)) ∧
    (∀ it h, h.get? it = some o → B h → St it 0 h) ∧ ∀ it i h, St it i h → ∀ b ∈ [it, l], ∃ o, h.get? b = some o := by
  obtain ⟨l, rfl, h | h⟩ := h
  · obtain ⟨its, r, p, _⟩ := I.list h
    refine ⟨l, _, _, its, fun it i h => h.IsListIter it l i ∧ h.IsList l its.toArray, rfl, r, p.lt, begins_list l its.toArray, p.isList, fun it A hA hn => ?_, fun it h e b => ⟨⟨_, e, rfl, rfl⟩, b⟩, fun it i h st b hb => ?_⟩
    · have D := Draws.list (prog := X.prog) (w := X.w) hA it l hn its.toArray
      simpa using D
    · obtain ⟨⟨o1, e1, _⟩, ⟨o2, e2, _⟩⟩ := st
      have e : b = it ∨ b = l := by simpa using hb
      rcases e with rfl | rfl
      · exact ⟨_, e1⟩
      · exact ⟨_, e2⟩
  · obtain ⟨its, r, p, _⟩ := I.tuple h
    have p' : s.heap.IsTuple l its.toArray := p
    obtain ⟨o, ho, _⟩ := id p'
    refine ⟨l, _, _, its, fun it i h => h.IsTupleIter it l i ∧ h.IsTuple l its.toArray, rfl, r, Heap.lt_size ho, begins_tuple l its.toArray, p', fun it A hA hn => ?_, fun it h e b => ⟨⟨_, e, rfl, rfl⟩, b⟩, fun it i h st b hb => ?_⟩
    · have D := Draws.tuple (prog := X.prog) (w := X.w) hA it l hn its.toArray
      simpa using D
    · obtain ⟨⟨o1, e1, _⟩, ⟨o2, e2, _⟩⟩ := st
      have e : b = it ∨ b = l := by simpa using hb
      rcases e with rfl | rfl
      · exact ⟨_, e1⟩
      · exact ⟨_, e2⟩
end

/-! told[row] -/
def tDGetT (K : Kx) (td ty : TE) : TE := fun σ H Q => td σ H fun x H1 => ty σ H1 fun y H2 => ∃ a b ks vs k v, x = .ref a ∧ y = .ref b ∧ DtR K H2 a ks vs ∧ SqT K H2 b (k.map V.str) ∧ lookV ks vs k = some v ∧ Q v H2
theorem pe_dgetT {X : Cx} {o i : Expr} {td ty : TE} {pos : Pos} (hu : X.A.units + 1 < cLine) (ho : PE X o td) (hi : PE X i ty) (hs : NoSl i) : PE X (.Subscript o i pos) (tDGetT X.kx td ty) := by
  refine ⟨fun pins s σ H Q I h => ?_⟩
  refine subD_of PySem.F.slot_dict_getitem.lookup hs (thn (ho.run pins s σ H _ I h) fun u s1 ⟨x, H1, I1, rx, q1⟩ => thn (hi.run pins s1 σ H1 _ I1 q1) fun iv s2 ⟨y, H2, I2, ry, a, b, ks, vs, k, v, ex, ey, g, hb, hl, q2⟩ => ?_)
  subst ex ey
  obtain rfl : u = Value.ref a := rx
  obtain rfl : iv = Value.ref b := ry
  obtain ⟨hd, xs, dd, rel⟩ := dtr_of I2 g
  have r := rel k
  rw [hl] at r
  obtain ⟨w', hw, rw'⟩ := RelO.some_of (v := v) r
  obtain ⟨p, hp, hp2⟩ := Option.map_eq_some_iff.mp hw
  refine ⟨dd.typeIs, wpAny_getItem_heap (tupleKind_room_in1 hu) (key_sq I2 hb) dd hp ?_⟩
  rw [hp2]
  exact ⟨v, H2, I2.tok _, rw', q2⟩
def rowOf (d : D) : Option (List Str) := d.asT.bind strsOf
def dgetTD : D → D → Option D
  | .dT es, y => (rowOf y).bind fun k => lookD es k
  | _, _ => none
theorem rowOf_rep {K : Kx} {c : Option Addr} {I : Hp} {v : V} {d : D} {k : List Str} (h : Rep K c I v d) (e : rowOf d = some k) : ∃ b, v = .ref b ∧ SqT K I b (k.map V.str) := by
  obtain ⟨ds, h1, h2⟩ := bind_some_of e
  obtain ⟨a, xs, rfl, hq, r⟩ := h.asT h1
  have ev := strsOf_rep r h2
  subst ev
  exact ⟨a, rfl, hq⟩
theorem sn_dgetT {K : Kx} {td ty : TE} {dd dy : Dn} (h0 : SndE K td dd) (h1 : SndE K ty dy) : SndE K (tDGetT K td ty) (dOp dgetTD dd dy) := fun c I H σ ρ s d s' e h Q q => by
  obtain ⟨⟨x, s1⟩, h2, h⟩ := bind_some_of h
  obtain ⟨⟨y, s2⟩, h3, h⟩ := bind_some_of h
  obtain ⟨z, h4, h⟩ := map_some_of h
  cases h
  refine h0 _ _ _ _ _ _ _ _ e h2 _ fun v I1 H1 g1 w1 r1 => ?_
  refine h1 _ _ _ _ _ _ _ _ (e.grow g1 w1) h3 _ fun u I2 H2 g2 w2 r2 => ?_
  unfold dgetTD at h4
  split at h4
  · rename_i yy es hx
    have hx : x = .dT es := hx
    subst hx
    obtain ⟨k, h5, h6⟩ := bind_some_of h4
    obtain ⟨b, rfl, hb⟩ := rowOf_rep r2 h5
    cases r1 with
    | dT hI rs =>
      obtain ⟨v, h7, h8⟩ := (rs.mono g2.s1).look h6
      refine ⟨_, b, _, _, k, v, rfl, rfl, ⟨g2.s2.get (g2.s1 _ _ hI) (fun _ z => nomatch z), fun q hq => g2.s2.sqT ((rs.mono g2.s1).sq q hq)⟩, g2.s2.sqT hb, h7, q _ I2 H2 (g1.tr w1 g2) w2 h8⟩
  · cases h4
theorem ee_dgetT {X : Cx} {o i : Expr} {td ty : TE} {dd dy : Dn} {pos : Pos} {k : Nat} (hr : Room k X.A) (ho : EE X o td dd) (hi : EE X i ty dy) (hs : NoSl i := by exact fun _ _ => rfl) : EE X (.Subscript o i pos) (tDGetT X.kx td ty) (dOp dgetTD dd dy) :=
  ⟨pe_dgetT (hu_of hr) ho.p hi.p hs, sn_dgetT ho.s hi.s⟩

/-! told.get(row, x) -/
def tDGet2T (K : Kx) (td ty tx : TE) : TE := fun σ H Q => td σ H fun x H1 => ∃ a ks vs, x = .ref a ∧ DtR K H1 a ks vs ∧ ty σ H1 fun y H2 => tx σ H2 fun z H3 => ∃ b ks' vs' k, y = .ref b ∧ DtR K H3 a ks' vs' ∧ SqT K H3 b (k.map V.str) ∧ Q ((lookV ks' vs' k).getD z) H3
theorem pe_dget2T {X : Cx} {o e f : Expr} {apos cpos : Pos} {td ty tx : TE} (hu : X.A.units + 1 < cLine) (ho : PE X o td) (he : PE X e ty) (hf : PE X f tx) (m : M2 X o "get" apos e f cpos) : PE X (.Call (.Attribute o "get" apos) [e, f] [] cpos) (tDGet2T X.kx td ty tx) := by
  refine ⟨fun pins s σ H Q I h => ?_⟩
  refine wpAny_Call_method m.base m.few m.line PySem.F.plainAttrs_dict PySem.F.slot_dict_get PySem.F.type_dict_get (thn (ho.run pins s σ H _ I h) fun u s1 ⟨x, H1, I1, rx, a, ks, vs, ex, d, q1⟩ => ?_)
  subst ex
  obtain rfl : u = Value.ref a := rx
  obtain ⟨hd, xs, dd, rel⟩ := dtr_of I1 d
  refine ⟨dd.typeIs, fun b q => ?_, ?_⟩
  · cases q
    obtain ⟨ob, _, _, h1, h2, _⟩ := dd
    exact ⟨ob, h1, h2.2.1⟩
  rw [m.trees]
  refine Calls.callWith_builtin rfl (Calls.evalArgs_plain (Calls.spliced_cons (thn (he.run pins s1 σ H1 _ I1 q1) fun iv s2 ⟨y, H2, I2, ry, q2⟩ =>
    Calls.spliced_cons (thn (hf.run pins s2 σ H2 _ I2 q2) fun fv s3 ⟨z, H3, I3, rz, b, ks', vs', k, ey, g, hb, q3⟩ => Calls.spliced_nil ?_))))
  subst ey
  obtain rfl : iv = Value.ref b := ry
  obtain ⟨hd3, xs3, dd3, rel3⟩ := dtr_of I3 g
  refine call_meetsIn PySem.F.slot_dict_get dd3.typeIs PySem.F.entry_dict_get (PySem.F.args_dict_get_3 _ _ _) (meetsH_dict_get_default (tupleKind (mixKind X.prog X.w)) a b hd3 fv) ⟨tupleKind_room_in1 hu, _, xs3, key_sq I3 hb, dd3, ?_⟩
  exact ⟨_, H3, I3.tok _, (rel3 k).getD rz, q3⟩
def dget2TD (d k x : D) : Option D := match d with
  | .dT es => (rowOf k).map fun ks => (lookD es ks).getD x
  | _ => none
def dGet2T (dd dy dx : Dn) : Dn := fun ρ s => (dd ρ s).bind fun p => (dy ρ p.2).bind fun q => (dx ρ q.2).bind fun r => (dget2TD p.1 q.1 r.1).map fun z => (z, r.2)
theorem sn_dget2T {K : Kx} {td ty tx : TE} {dd dy dx : Dn} (h0 : SndE K td dd) (h1 : SndE K ty dy) (h2 : SndE K tx dx) : SndE K (tDGet2T K td ty tx) (dGet2T dd dy dx) := fun c I H σ ρ s d s' e h Q q => by
  obtain ⟨⟨x, s1⟩, ha, h⟩ := bind_some_of h
  obtain ⟨⟨y, s2⟩, hb, h⟩ := bind_some_of h
  obtain ⟨⟨t, s3⟩, hc, h⟩ := bind_some_of h
  obtain ⟨z, h4, h⟩ := map_some_of h
  cases h
  unfold dget2TD at h4
  split at h4
  · rename_i es hx
    have hx : x = .dT es := hx
    subst hx
    obtain ⟨k, h5, rfl⟩ := map_some_of h4
    refine h0 _ _ _ _ _ _ _ _ e ha _ fun v I1 H1 g1 w1 r1 => ?_
    cases r1 with
    | dT hI rs =>
      refine ⟨_, _, _, rfl, ⟨g1.s2.get hI (fun _ z => nomatch z), fun q hq => g1.s2.sqT (rs.sq q hq)⟩, ?_⟩
      refine h1 _ _ _ _ _ _ _ _ (e.grow g1 w1) hb _ fun u I2 H2 g2 w2 r2 => ?_
      have g12 := g1.tr w1 g2
      obtain ⟨b, rfl, hq⟩ := rowOf_rep r2 h5
      refine h2 _ _ _ _ _ _ _ _ (e.grow g12 w2) hc _ fun w I3 H3 g3 w3 r3 => ?_
      have rs3 := (rs.mono g2.s1).mono g3.s1
      refine ⟨b, _, _, k, rfl, ⟨g3.s2.get (g3.s1 _ _ (g2.s1 _ _ hI)) (fun _ z => nomatch z), fun q hq => g3.s2.sqT (rs3.sq q hq)⟩, g3.s2.sqT (sb_sqT g3.s1 hq), ?_⟩
      cases hl : lookD es k with
      | some d1 =>
        obtain ⟨v1, h5, h6⟩ := rs3.look hl
        rw [h5]
        rw [hl] at q
        exact q _ I3 H3 (g12.tr w2 g3) w3 h6
      | none =>
        rw [rs3.none hl]
        rw [hl] at q
        exact q _ I3 H3 (g12.tr w2 g3) w3 r3
  · cases h4
theorem ee_dget2T {X : Cx} {j : Nat} {o e f : Expr} {apos cpos : Pos} {td ty tx : TE} {dd dy dx : Dn} (hr : Room j X.A) (ho : EE X o td dd) (he : EE X e ty dy) (hf : EE X f tx dx) (m : M2 X o "get" apos e f cpos := by exact ⟨rfl, by rfl, by decide, rfl⟩) :
    EE X (.Call (.Attribute o "get" apos) [e, f] [] cpos) (tDGet2T X.kx td ty tx) (dGet2T dd dy dx) := ⟨pe_dget2T (hu_of hr) ho.p he.p hf.p m, sn_dget2T ho.s he.s hf.s⟩

/-! dict(zip(rows, answers)) -/
def tDictZip (K : Kx) (ta : TA) : TE := fun σ H Q => ta σ H fun zs H1 => ∃ (x y : V) (ks : List (List Str × Addr)) (us : List V), zs = [x, y] ∧ ItV K H1 x (ks.map fun k => V.ref k.2) ∧ ItV K H1 y us ∧ us.length = ks.length ∧ (∀ k ∈ ks, SqT K H1 k.2 (k.1.map V.str)) ∧
  (ks.map fun k => k.1).Nodup ∧ ks.length ≤ 1000 ∧ ∀ T, H1 T = none → Q (.ref T) (upd H1 T (DTo K.P K.w T ks us))
def pairsOf : List (List Str × Addr) → List Value → List (List Key × Addr × Value)
  | k :: ks, u :: us => (k.1.map Sum.inr, k.2, u) :: pairsOf ks us
  | _, _ => []
theorem pairsOf_get : ∀ {ks : List (List Str × Addr)} {us : List Value} {i : Nat} {k : List Str × Addr} {u : Value}, ks[i]? = some k → us[i]? = some u → (pairsOf ks us)[i]? = some (k.1.map Sum.inr, k.2, u)
  | [], _, _, _, _, h, _ => by simp at h
  | _ :: _, [], _, _, _, _, h => by simp at h
  | q :: ks, v :: us, 0, k, u, h, g => by
    simp at h g
    subst h g
    rfl
  | q :: ks, v :: us, i + 1, k, u, h, g => by
    show (pairsOf ks us)[i]? = _
    exact pairsOf_get (by simpa using h) (by simpa using g)
theorem pairsOf_len : ∀ {ks : List (List Str × Addr)} {us : List Value}, us.length = ks.length → (pairsOf ks us).length = ks.length
  | [], _, _ => rfl
  | _ :: _, [], h => by simp at h
  | q :: ks, v :: us, h => by
    show (pairsOf ks us).length + 1 = ks.length + 1
    rw [pairsOf_len (by simpa using h)]
theorem pairsOf_keys : ∀ {ks : List (List Str × Addr)} {us : List Value}, us.length = ks.length → (pairsOf ks us).map (fun x => (x.1, x.2.1)) = ks.map fun k => (k.1.map Sum.inr, k.2)
  | [], _, _ => rfl
  | _ :: _, [], h => by simp at h
  | q :: ks, v :: us, h => by
    show _ :: (pairsOf ks us).map _ = _
    rw [pairsOf_keys (by simpa using h)]; rfl
theorem pairsOf_vals : ∀ {ks : List (List Str × Addr)} {us : List Value}, us.length = ks.length → (pairsOf ks us).map (fun x => x.2.2) = us
  | [], [], _ => rfl
  | [], _ :: _, h => by simp at h
  | _ :: _, [], h => by simp at h
  | q :: ks, v :: us, h => by
    show v :: (pairsOf ks us).map _ = _
    rw [pairsOf_vals (by simpa using h)]
theorem pe_dictZip {X : Cx} {e e2 : Expr} {ta : TA} {j : Nat} {p p2 q pos : Pos} (hr : Room j X.A) (hc : X.calm = true) (hg : Gl X "dict") (hm : X.mg "dict" = none) (hg2 : Gl X "zip") (hm2 : X.mg "zip" = none) (ha : PA X [e, e2] ta)
    (na : starEach [.Call (.Name "zip" p2) [e, e2] [] q] X.env = (false, eval (.Call (.Name "zip" p2) [e, e2] [] q) X.env) :: starEach [] X.env := by rfl)
    (hs : starEach [e, e2] X.env = (false, eval e X.env) :: starEach [e2] X.env := by rfl) (hpl : (backTo q (starEach [e2] X.env)).any (fun z => z.1) = false := by rfl) :
    PE X (.Call (.Name "dict" p) [.Call (.Name "zip" p2) [e, e2] [] q] [] pos) (tDictZip X.kx ta) := by
  refine ⟨fun pins s σ H Q I h => Call_ (ld_blt I hg hm PyProof.Rows.boot_dict (PyProof.Rows.callWith_type1 (PyProof.Rows.args_cons (Call_ (ld_blt I hg2 hm2 PyProof.Rows.boot_zip (PyProof.Rows.callWith_type1 (thn (ha.run q pins s σ H _ I h) fun zs s1 z => ?_) hs hpl))) na) na rfl))⟩
  obtain ⟨ws, H1, I1, r1, x, y, ks, us, ex, hx, hy, hl, hk, hn, hz, q1⟩ := z
  subst ex
  cases r1 with
  | @cons _ v1 _ _ ra r1 => cases r1 with
    | @cons _ v2 _ _ rb r1 =>
      cases r1
      obtain ⟨l1, o1, B1, its1, St1, rfl, ri1, lt1, bg1, b1, dr1, st1, lv1⟩ := itv_begins I1 hx
      obtain ⟨l2, o2, B2, its2, St2, rfl, ri2, lt2, bg2, b2, dr2, st2, lv2⟩ := itv_begins I1 hy
      obtain rfl : v1 = Value.ref l1 := ra
      obtain rfl : v2 = Value.ref l2 := rb
      have n1 : its1.length = ks.length := by rw [← ri1.length, List.length_map]
      have n2 : its2.length = ks.length := by rw [← ri2.length, hl]
      refine zip_begins2 bg1 bg2 b1 b2 fun h' hzip hTI hTO g1 g2 hsz hkp => PyProof.Rows.args_nil ?_
      have I2 : Inv X pins σ H1 { s1 with heap := h' } := I1.kept (t' := s1.toks) hkp
      have S := zip_sep2 (N := s1.heap.objs.size) (fp1 := [l1]) (fp2 := [l2]) (by simpa using lt1) (by simpa using lt2)
      have PA1 := zipArg (prog := X.prog) (w := X.w) S (fun A hA => dr1 s1.heap.objs.size A hA (Nat.ne_of_lt lt1)) (fun A hA => dr2 (s1.heap.objs.size + 1) A hA (Nat.ne_of_lt (Nat.lt_succ_of_lt lt2))) (fun i h st => lv1 _ i h st) (fun i h st => lv2 _ i h st)
      have hmin : min its1.length its2.length = ks.length := by rw [n1, n2]; exact Nat.min_self _
      refine call_dict_pairsH (ps := pairsOf ks its2) (knd := tupleKind (mixKind X.prog X.w)) PA1 (I1.ok.hd hc) ?_ ⟨hzip, hTI, ⟨_, _, hTO⟩, st1 _ _ g1 (bg1.keeps _ _ b1 hkp), st2 _ _ g2 (bg2.keeps _ _ b2 hkp)⟩ ⟨?_, ?_⟩ ?_ ?_ ?_
      · show X.A.in1.in1.units < cLine
        have := hr.units
        show X.A.units + 1 + 1 < cLine
        omega
      · rw [hmin, pairsOf_len (n2.trans rfl)]
      · intro i key v hrel
        obtain ⟨e1, e2⟩ := hrel
        have hi : i < ks.length := by
          rw [← n2]
          exact (List.getElem?_eq_some_iff.mp e2).1
        have hki : ks[i]? = some ks[i] := List.getElem?_eq_getElem hi
        have hv : (ks.map fun k => V.ref k.2)[i]? = some (V.ref ks[i].2) := by rw [List.getElem?_map, hki]; rfl
        obtain ⟨u, hu, ru⟩ := ri1.get hv
        rw [hu] at e1
        cases e1
        exact ⟨_, ks[i].2, pairsOf_get hki e2, ru⟩
      · intro h'' hk'' x hx
        have hm : (x.1, x.2.1) ∈ ks.map (fun k => (k.1.map Sum.inr, k.2)) := by rw [← pairsOf_keys n2]; exact List.mem_map_of_mem hx
        obtain ⟨q, hq, eq⟩ := List.mem_map.mp hm
        have e1 : x.1 = q.1.map Sum.inr := (congrArg (fun z => z.1) eq).symm
        have e2 : x.2.1 = q.2 := (congrArg (fun z => z.2) eq).symm
        rw [e1, e2]
        refine tk_at (key_sq I1 (hk q hq)) fun o ho => ?_
        have hlt : q.2 < s1.heap.objs.size := Heap.lt_size ho
        refine hk'' q.2 o ?_ ?_ (hkp _ _ ho)
        · rw [hsz]; exact (far hlt).2.2.2.2
        · intro hm
          simp only [List.mem_cons, List.not_mem_nil, or_false] at hm
          obtain ⟨f1, f2, f3, f4, _⟩ := far hlt
          rcases hm with z | z | z | z
          · exact f1 z
          · exact f2 z
          · exact f3 z
          · exact f4 z
      · rw [hmin]; exact Nat.le_of_lt (small1000 hz)
      · intro h'' tk hd hkp2
        rw [hsz] at hd ⊢
        have nd : ((pairsOf ks its2).map fun x => x.1).Nodup := by
          have e : (pairsOf ks its2).map (fun x => x.1) = (ks.map fun k => k.1).map (List.map (Sum.inr : Str → Key)) := by
            have := congrArg (List.map fun z : List Key × Addr => z.1) (pairsOf_keys (ks := ks) (us := its2) n2)
            rw [List.map_map, List.map_map] at this
            rw [List.map_map]
            exact this
          rw [e]
          exact List.pairwise_map.mpr (List.Pairwise.imp (fun h z => h (inr_inj z)) hn)
        rw [storedAllH_nil_of_nodup _ nd] at hd
        have kp : ∀ b o, s1.heap.get? b = some o → h''.get? b = some o := fun b o e => by
          have hlt : b < s1.heap.objs.size := Heap.lt_size e
          refine hkp2 b o (fun hm => ?_) (hkp _ _ e)
          simp only [List.mem_cons, List.not_mem_nil, or_false] at hm
          obtain ⟨f1, f2, f3, f4, _⟩ := far hlt
          rcases hm with z | z | z | z
          · exact f1 z
          · exact f2 z
          · exact f3 z
          · exact f4 z
        obtain ⟨o, es, ep, d1, d2, d3, d4, _, d5⟩ := hd
        have hbig : sysModules < s1.heap.objs.size := I1.big
        have hf : H1 (s1.heap.objs.size + 5) = none := I1.hok.fresh (Nat.le_add_right _ _)
        refine ⟨.ref (s1.heap.objs.size + 5), _, I1.laid (a := s1.heap.objs.size + 5) (t' := tk) kp (Nat.le_add_right _ _) ?_, rfl, q1 _ hf⟩
        refine ⟨⟨?_, Nat.le_of_lt (small1000 hz), pairsOf ks its2, pairsOf_keys n2, by rw [pairsOf_vals n2]; exact ri2, o, es, ep, d1, d2, d3, d4, nd⟩, ⟨o, d1⟩, ?_⟩
        · exact beq_eq_false_iff_ne.mpr (fun z => absurd hbig (Nat.not_lt.mpr (by rw [← z]; exact Nat.le_add_right _ _)))
        · rintro ha hb ⟨z1, z2, xs, z3, z4, o', es', ep', z5, z6⟩ hab
          exact ⟨z1, z2, xs, z3, z4, o', es', ep', hab _ z5, z6⟩
/-- the items of a list or a tuple -/
def seqOf : D → Option (List D)
  | .tup xs => some xs
  | .ktp xs => some xs
  | .lst xs => some xs
  | _ => none
theorem seqOf_rep {K : Kx} {c : Option Addr} {I H : Hp} {v : V} {d : D} {ds : List D} (h : Rep K c I v d) (sb : Sub I H) (e : seqOf d = some ds) : ∃ xs, ItV K H v xs ∧ RepL K c I xs ds := by
  cases h with
  | tup h _ r => cases e; exact ⟨_, ⟨_, rfl, .inr (sb.sqT (.inl (.inr ⟨_, h⟩)))⟩, r⟩
  | ktp h r => cases e; exact ⟨_, ⟨_, rfl, .inr (sb.sqT h)⟩, r⟩
  | lst h r => cases e; exact ⟨_, ⟨_, rfl, .inl (.of (sb.lst h))⟩, r⟩
  | _ => cases e
def rowsOf : List D → Option (List (List Str))
  | [] => some []
  | d :: ds => (rowOf d).bind fun k => (rowsOf ds).map fun ks => k :: ks
theorem rowsOf_rep {K : Kx} {c : Option Addr} {I : Hp} : ∀ {vs : List V} {ds : List D} {rs : List (List Str)}, RepL K c I vs ds → rowsOf ds = some rs → ∃ ks : List (List Str × Addr), ks.map (fun k => k.1) = rs ∧ vs = ks.map (fun k => V.ref k.2) ∧ ∀ k ∈ ks, SqT K I k.2 (k.1.map V.str)
  | _, _, _, .nil, h => by cases h; exact ⟨[], rfl, rfl, fun _ h => nomatch h⟩
  | _, _, _, .cons a r, h => by
    obtain ⟨k, h1, h⟩ := bind_some_of h
    obtain ⟨rs, h2, rfl⟩ := map_some_of h
    obtain ⟨b, rfl, hb⟩ := rowOf_rep a h1
    obtain ⟨ks, rfl, rfl, hk⟩ := rowsOf_rep r h2
    refine ⟨(k, b) :: ks, rfl, rfl, fun q hq => ?_⟩
    rcases List.mem_cons.mp hq with e | hq
    · subst e; exact hb
    · exact hk q hq
def dDictZip (ax : Da) : Dn := fun ρ s => (ax ρ s).bind fun p => match p.1 with
  | [d, e] => (seqOf d).bind fun ds => (rowsOf ds).bind fun rs => (seqOf e).bind fun es => if es.length = rs.length ∧ rs.Nodup ∧ rs.length ≤ 1000 then some (.dT (rs.zip es), p.2) else none
  | _ => none
theorem repT_zip {K : Kx} {c : Option Addr} {I : Hp} : ∀ {ks : List (List Str × Addr)} {us : List V} {es : List D}, RepL K c I us es → es.length = ks.length → (∀ k ∈ ks, SqT K I k.2 (k.1.map V.str)) → RepT K c I ks us ((ks.map fun k => k.1).zip es)
  | [], _, _, .nil, _, _ => .nil
  | [], _, _, .cons _ _, e, _ => by simp at e
  | _ :: _, _, _, .nil, e, _ => by simp at e
  | k :: ks, _, _, .cons a r, e, h => .cons (h k List.mem_cons_self) a (repT_zip r (by simpa using e) fun q hq => h q (List.mem_cons_of_mem _ hq))
theorem sn_dictZip {K : Kx} {ta : TA} {ax : Da} (h1 : SndA K ta ax) : SndE K (tDictZip K ta) (dDictZip ax) := fun c I H σ ρ s d s' e h Q q => by
  obtain ⟨⟨x, s1⟩, h2, h⟩ := bind_some_of h
  refine h1 _ _ _ _ _ _ _ _ e h2 _ fun v I1 H1 g1 w1 r1 => ?_
  split at h
  · rename_i d f hd
    have hd : x = [d, f] := hd
    subst hd
    obtain ⟨ds, h3, h⟩ := bind_some_of h
    obtain ⟨rs, h4, h⟩ := bind_some_of h
    obtain ⟨es, h5, h⟩ := bind_some_of h
    split at h
    · rename_i hh
      obtain ⟨hl, hn, hz⟩ := hh
      cases h
      cases r1 with
      | cons ra r => cases r with
        | cons rb r =>
          cases r
          obtain ⟨xs, hx, rx⟩ := seqOf_rep ra g1.s2 h3
          obtain ⟨us, hu, ru⟩ := seqOf_rep rb g1.s2 h5
          obtain ⟨ks, rfl, rfl, hk⟩ := rowsOf_rep rx h4
          rw [List.length_map] at hl hz
          refine ⟨_, _, ks, us, rfl, hx, hu, by rw [ru.length, hl], fun k hk' => g1.s2.sqT (hk k hk'), hn, hz, fun T hT => ?_⟩
          have g := Gr.new (o := DTo K.P K.w T ks us) g1.s2 hT
          refine q _ _ _ (g1.tr w1 g.up) ?_ (.dT upd_same (repT_zip (ru.mono g.s1) hl fun k hk' => sb_sqT g.s1 (hk k hk')))
          exact w1.gr g.up
    · cases h
  · cases h
theorem ee_dictZip {X : Cx} {e e2 : Expr} {ta : TA} {ax : Da} {j : Nat} {p p2 q pos : Pos} (hr : Room j X.A) (hc : X.calm = true) (hg : Gl X "dict") (hm : X.mg "dict" = none) (hg2 : Gl X "zip") (hm2 : X.mg "zip" = none) (ha : EA X [e, e2] ta ax)
    (na : starEach [.Call (.Name "zip" p2) [e, e2] [] q] X.env = (false, eval (.Call (.Name "zip" p2) [e, e2] [] q) X.env) :: starEach [] X.env := by rfl)
    (hs : starEach [e, e2] X.env = (false, eval e X.env) :: starEach [e2] X.env := by rfl) (hpl : (backTo q (starEach [e2] X.env)).any (fun z => z.1) = false := by rfl) :
    EE X (.Call (.Name "dict" p) [.Call (.Name "zip" p2) [e, e2] [] q] [] pos) (tDictZip X.kx ta) (dDictZip ax) := ⟨pe_dictZip hr hc hg hm hg2 hm2 ha.p na hs hpl, sn_dictZip ha.s⟩
end Dl
end
section
set_option Elab.async false
set_option linter.all false
set_option maxRecDepth 100000
set_option maxHeartbeats 4000000
namespace Dl
open PySem PySem.Spec PyProof.Rows L2 StX RZ
/-! text.split(sep) -/
def rSplitS : V → List V → Hp → VK → Prop := fun x xs H Q => ∃ a b, x = .str a ∧ xs = [.str b] ∧ (b.length == 0) = false ∧ a.length + 2 ≤ sizeLine ∧ rNewStrs (Txt.split a b) H Q
def splitSD : Str → List D → Option D
  | x, [.str y] => if (y.length == 0) = false ∧ x.length ≤ 1000000 then some (.lst ((Txt.split x y).map D.str)) else none
  | _, _ => none
theorem sm_split {K : Kx} : SndMS K rSplitS splitSD := fun c I H x xs ds z s rx h Q q => by
  unfold splitSD at h
  split at h
  · rename_i y
    split at h
    · rename_i hl
      cases h
      cases rx with
      | cons a r =>
        cases r
        cases a
        refine ⟨_, y, rfl, rfl, hl.1, Nat.le_trans (Nat.add_le_add_right hl.2 2) (by decide), fun p hp => ?_⟩
        have g := Gr.new (o := .lst ((Txt.split x y).map V.str)) s hp
        exact q _ _ _ g (.lst upd_same (RepL.strs _))
    · cases h
  · cases h
/-! a, b = x, {} -/
def dParO2 (i j : Nat) (da db : Dn) : Ds := fun ρ s => (da ρ s).bind fun p => (db ρ p.2).map fun q => (.nx ((ρ.set i (.im p.1)).set j (.ow q.1)), q.2)
theorem ss_parO2 {K : Kx} {t1 t2 : TE} {da db : Dn} (i j : Nat) (h1 : SndE K t1 da) (h2 : SndF K t2 db) : SndS K (tPar i j (tCons t1 (tCons t2 tNil))) (dParO2 i j da db) := fun c I0 H0 I H σ ρ s o s' e h D q => by
  obtain ⟨⟨x, s1⟩, ha, h⟩ := bind_some_of h
  obtain ⟨⟨y, s2⟩, hb, h⟩ := map_some_of h
  cases h
  refine h1 _ _ _ _ _ _ _ _ e.env ha _ fun v I1 H1 g1 w1 r1 => ?_
  have e1 := e.grow g1 w1
  refine h2 _ _ _ _ _ _ _ _ e1.env hb _ fun p I2 H2 g2 w2 o2 hp => ?_
  refine ⟨_, _, rfl, q _ _ _ (((e1.grow g2 w2).setI (r1.mono g2.s1) i).setO o2 (fun k d a b => ?_) (e1.old hp) j)⟩
  by_cases hk : k = i
  · subst hk
    rw [List.getElem?_set] at b
    simp only [if_true] at b
    split at b
    · cases b
    · cases b
  · rw [List.getElem?_set_ne (Ne.symm hk)] at a b
    obtain ⟨p2, hp2, o3⟩ := e1.env.ow b
    rw [a] at hp2
    cases hp2
    exact o3.some_ hp
theorem ss_asgO2 {K : Kx} {t1 t2 : TE} {da db : Dn} (i j : Nat) (h1 : SndE K t1 da) (h2 : SndF K t2 db) : SndS K (tAsg (tTupF (tCons t1 (tCons t2 tNil))) (gTup K 2 (gCons (gName i) (gCons (gName j) gNil)))) (dParO2 i j da db) := fun c I0 H0 I H σ ρ s o s' e h D q => by
  obtain ⟨⟨x, s1⟩, ha, h⟩ := bind_some_of h
  obtain ⟨⟨y, s2⟩, hb, h⟩ := map_some_of h
  cases h
  refine h1 _ _ _ _ _ _ _ _ e.env ha _ fun v I1 H1 g1 w1 r1 => ?_
  have e1 := e.grow g1 w1
  refine h2 _ _ _ _ _ _ _ _ e1.env hb _ fun p I2 H2 g2 w2 o2 hp => ⟨(by decide : 2 ≤ sizeLine), fun T ob hT ho => ?_⟩
  have g3 := Gr.new (o := .frz ob (.tup [v, .ref p])) g2.s2 hT
  have e3 := (e1.grow g2 w2).grow (g3.up (c := c)) (w2.gr g3)
  refine ⟨T, [v, .ref p], rfl, .inl (.inr ⟨ob, upd_same⟩), rfl, v, [.ref p], rfl, .ref p, [], rfl, rfl, q _ _ _ ((e3.setI ((r1.mono g2.s1).mono g3.s1) i).setO (o2.grow (g3.up (c := c))) (fun k d a b => ?_) (e1.old hp) j)⟩
  by_cases hk : k = i
  · subst hk
    rw [List.getElem?_set] at b
    simp only [if_true] at b
    split at b
    · cases b
    · cases b
  · rw [List.getElem?_set_ne (Ne.symm hk)] at a b
    obtain ⟨p2, hp2, o3⟩ := e1.env.ow b
    rw [a] at hp2
    cases hp2
    exact o3.some_ hp
section
variable {X : Cx} {e e1 e2 k v : Expr} {te ty tv t1 t2 : TE} {da dk dv db : Dn} {pos pos' : Pos}
theorem es_parO2 {i j : Nat} {x y : Str} {px py pt pt2 : Pos} {kt k2 : Nat} (hc : X.calm = true) (hN : X.N.Nodup) (hi : X.N[i]? = some x) (hj : X.N[j]? = some y) (hij : i ≠ j)
    (hx : X.env.scope.names.lookup x = some .local) (hy : X.env.scope.names.lookup y = some .local) (h1 : EE X e1 t1 da) (h2 : EF X e2 t2 db)
    (hw : swappedStores [.Tuple [.Name x px, .Name y py] kt pt] (.Tuple [e1, e2] k2 pt2) X.env = pure (some [x, y]) := by rfl)
    (hs : swapsWithSole [.Tuple [.Name x px, .Name y py] kt pt] (.Tuple [e1, e2] k2 pt2) pos.line X.env = pure false := by rfl) (hs1 : starEach [e1, e2] X.env = (false, eval e1 X.env) :: starEach [e2] X.env := by rfl) (hs2 : starEach [e2] X.env = (false, eval e2 X.env) :: starEach [] X.env := by rfl) :
    ES X (.Assign [.Tuple [.Name x px, .Name y py] kt pt] (.Tuple [e1, e2] k2 pt2) pos) (tPar i j (tCons t1 (tCons t2 tNil))) (dParO2 i j da db) := ⟨ps_par hc hN hi hj hij hx hy (pa_cons h1.p (pa_cons h2.p pa_nil hs2) hs1) hw hs, ss_parO2 i j h1.s h2.s⟩
theorem es_asgO2 {i j : Nat} {x y : Str} {px py pt pt2 : Pos} {kt k2 : Nat} (hc : X.calm = true) (hN : X.N.Nodup) (hi : X.N[i]? = some x) (hj : X.N[j]? = some y) (hx : Loc X.env.scope x) (hy : Loc X.env.scope y) (h1 : EE X e1 t1 da) (h2 : EF X e2 t2 db)
    (hf : X.fn x = true ∨ X.env.scope.names.lookup x = some .local := by first | exact .inl rfl | exact .inr rfl) (hf2 : X.fn y = true ∨ X.env.scope.names.lookup y = some .local := by first | exact .inl rfl | exact .inr rfl)
    (hs1 : starEach [e1, e2] X.env = (false, eval e1 X.env) :: starEach [e2] X.env := by rfl) (hs2 : starEach [e2] X.env = (false, eval e2 X.env) :: starEach [] X.env := by rfl)
    (hs : swapsWithSole [.Tuple [.Name x px, .Name y py] kt pt] (.Tuple [e1, e2] k2 pt2) pos.line X.env = pure false := by rfl) (hw : swappedStores [.Tuple [.Name x px, .Name y py] kt pt] (.Tuple [e1, e2] k2 pt2) X.env = pure none := by rfl)
    (hn : (assignEach [.Name x px, .Name y py] X.env).length = 2 := by rfl) (hst : (assignEach [.Name x px, .Name y py] X.env).findIdx? (fun z => z.1) = none := by rfl)
    (ha1 : (assignEach [.Name x px, .Name y py] X.env).map (fun z => z.2) = assign (.Name x px) X.env :: (assignEach [.Name y py] X.env).map (fun z => z.2) := by rfl) (ha2 : (assignEach [.Name y py] X.env).map (fun z => z.2) = assign (.Name y py) X.env :: (assignEach [] X.env).map (fun z => z.2) := by rfl)
    (ha3 : (assignEach [.Tuple [.Name x px, .Name y py] kt pt] X.env).map (fun z => z.2) = [assign (.Tuple [.Name x px, .Name y py] kt pt) X.env] := by rfl) :
    ES X (.Assign [.Tuple [.Name x px, .Name y py] kt pt] (.Tuple [e1, e2] k2 pt2) pos) (tAsg (tTupF (tCons t1 (tCons t2 tNil))) (gTup X.kx 2 (gCons (gName i) (gCons (gName j) gNil)))) (dParO2 i j da db) :=
  ⟨ps_asg (pe_tupF (pa_cons h1.p (pa_cons h2.p pa_nil hs2) hs1)) (pg_tup hc (pgs_cons (pg_name hN hi hx hf) (pgs_cons (pg_name hN hj hy hf2) pgs_nil ha2) ha1) hn hst) hs hw ha3, ss_asgO2 i j h1.s h2.s⟩
end
end Dl
end
section
set_option Elab.async false
set_option linter.all false
set_option maxRecDepth 100000
set_option maxHeartbeats 4000000
namespace Dl
open PySem PySem.Spec PyProof.Rows L2 StX RZ
/-! list(zip(..)): pairs, each a new tuple; dict(..) of such a list -/
theorem zip_no_len : typeLookup (.type "zip") "__len__" = pure none := by rw [typeLookup_type, builtinLookup_eq_fast]; kernel_rfl
theorem zip_no_hint : typeLookup (.type "zip") "__length_hint__" = pure none := by rw [typeLookup_type, builtinLookup_eq_fast]; kernel_rfl
/-- what the new list holds: the i-th pair's tuple -/
def PAcc (Rel : Nat → Value → Value → Prop) (S : Addr) (wr : List Addr) (acc : Array Value) (i : Nat) (h : Heap) : Prop := acc.size = i ∧ ∀ j v, acc[j]? = some v → ∃ T k u, v = .ref T ∧ Rel j k u ∧ IsTupOf2 h T k u ∧ T ≠ S ∧ T ∉ wr
/-- an iterator that gives out new pairs, seen from a list at S that is being filled -/
structure PSrc (prog : Program) (w : World) (A : Around) (I S : Addr) (wr : List Addr) (n : Nat) (Rel : Nat → Value → Value → Prop) (St : Nat → Heap → Prop) : Prop where
  off : S ∉ wr
  frame : ∀ i h h', St i h → (∀ b o, b ≠ S → h.get? b = some o → h'.get? b = some o) → St i h'
  item : ∀ i (s : Shared) (Q : Option Value → Shared → Prop) (E : Value → Shared → Prop), i < n → St i s.heap → S < s.heap.objs.size →
    (∀ T k v h' tk, Rel i k v → IsTupOf2 h' T k v → T ≠ S → T ∉ wr → St (i + 1) h' → (∀ b o, b ∉ wr → s.heap.get? b = some o → h'.get? b = some o) → Q (some (.ref T)) { s with heap := h', toks := tk }) → wpAny (model prog w) A (pyNext (.ref I)) Q E s
  done : ∀ (s : Shared) (Q : Option Value → Shared → Prop) (E : Value → Shared → Prop), St n s.heap →
    (∀ h' tk, (∀ b o, b ∉ wr → s.heap.get? b = some o → h'.get? b = some o) → Q none { s with heap := h', toks := tk }) → wpAny (model prog w) A (pyNext (.ref I)) Q E s
section
variable {prog : Program} {w : World} {A : Around} {R : Result → Shared → Prop} {I S : Addr} {wr : List Addr} {n : Nat} {Rel : Nat → Value → Value → Prop} {St : Nat → Heap → Prop}
theorem PAcc.keep {acc : Array Value} {i : Nat} {h h' : Heap} (x : PAcc Rel S wr acc i h) (k : ∀ b o, b ≠ S → b ∉ wr → h.get? b = some o → h'.get? b = some o) : PAcc Rel S wr acc i h' := by
  refine ⟨x.1, fun j v e => ?_⟩
  obtain ⟨T, a, u, e1, e2, e3, e4, e5⟩ := x.2 j v e
  exact ⟨T, a, u, e1, e2, k T _ e4 e5 e3, e4, e5⟩
theorem loop_pairs (D : PSrc prog w A.in1 I S wr n Rel St) (hn : n ≤ sizeLine) (res : Value) : ∀ (k i : Nat) (s : Shared) (acc : Array Value) (c : Nat), n - i = k → i ≤ n → St i s.heap → s.heap.get? S = some { cls := .type "list", dict := none, data := .seq acc c, slots := #[] } → PAcc Rel S wr acc i s.heap →
    (∀ h' tk acc' c', h'.get? S = some { cls := .type "list", dict := none, data := .seq acc' c', slots := #[] } → PAcc Rel S wr acc' n h' → (∀ b o, b ≠ S → b ∉ wr → s.heap.get? b = some o → h'.get? b = some o) → R (.ok (.ret res)) { s with heap := h', toks := tk }) →
    codeAny (model prog w) A (.builtin "list.extend.loop" ⟨[.ref S, .ref I, res], []⟩) R s := by
  intro k
  induction k with
  | zero =>
    intro i s acc c hk hi hst hS hacc hR
    have hin : i = n := by omega
    subst hin
    refine codeAny_builtin F.entry_extend_loop ?_
    rw [Around.under_plainId F.plain_extend_loop _]
    show wpAny _ A.in1 (pyNext (.ref I) >>= _) _ _ s
    refine wpAny_bind (D.done s _ _ hst fun h' tk hm => ?_)
    exact wpAny_pure (hR h' tk acc c (hm S _ D.off hS) (hacc.keep fun b o _ h2 e => hm b o h2 e) fun b o _ h2 e => hm b o h2 e)
  | succ k ih =>
    intro i s acc c hk hi hst hS hacc hR
    have hlt : i < n := by omega
    refine codeAny_builtin F.entry_extend_loop ?_
    rw [Around.under_plainId F.plain_extend_loop _]
    show wpAny _ A.in1 (pyNext (.ref I) >>= _) _ _ s
    refine wpAny_bind (D.item i s _ _ hlt hst (Heap.lt_size hS) fun T x y h1 tk hr hT hTS hTw hst' hm => ?_)
    have hS' := hm S _ D.off hS
    show wpAny _ A.in1 (updateSeq S (·.push (.ref T)) >>= _) _ _ _
    refine wpAny_bind ?_
    have oth : ∀ b o, b ≠ S → h1.get? b = some o → (h1.update S (Obj.mapSeq (·.push (Value.ref T)))).get? b = some o := fun b o hb e => (Heap.get?_update_other _ _ (Ne.symm hb)).trans e
    refine wpAny_updateSeq hS' rfl (wpAny_pure ⟨plainId_quiet F.plain_extend_loop _, ih (i + 1) _ (acc.push (.ref T)) _ (by omega) hlt (D.frame _ _ _ hst' fun b o hb e => oth b o hb e) (Heap.get?_update_self _ hS' rfl) ?_ fun h2 tk2 acc' c' hS2 hacc' hm2 => ?_⟩)
      (by rw [hacc.1]; omega) (by show (acc.push (Value.ref T)).size ≤ sizeLine + 1; rw [Array.size_push, hacc.1]; omega)
    · have a1 := hacc.keep (h' := h1.update S (Obj.mapSeq (·.push (Value.ref T)))) fun b o q1 q2 e => oth b o q1 (hm b o q2 e)
      refine ⟨by rw [Array.size_push, a1.1], fun j v hj => ?_⟩
      rw [Array.getElem?_push] at hj
      split at hj
      · rename_i e
        rw [a1.1] at e
        cases hj
        rw [e]
        exact ⟨T, x, y, rfl, hr, oth T _ hTS hT, hTS, hTw⟩
      · exact a1.2 j v hj
    · exact hR h2 tk2 acc' c' hS2 hacc' fun b o q1 q2 e => hm2 b o q1 q2 (oth b o q1 (hm b o q2 e))
/-- list(it), it such an iterator of a type that tells no length -/
theorem call_list_pairs {E : Value → Shared → Prop} {s : Shared} {Q : Value → Shared → Prop} {T : String} (hl : typeLookup (.type T) "__len__" = pure none) (hn0 : typeLookup (.type T) "__length_hint__" = pure none) (h2 : (Value.type T == Value.type "list") = false) (h3 : (Value.type T == Value.type "tuple") = false)
    (hT : ∀ h' : Heap, (∀ b o, s.heap.get? b = some o → h'.get? b = some o) → Shared.TypeIs { s with heap := h' } (.ref I) T) (hI : I < s.heap.objs.size)
    (hself : ∀ (A : Around) (h' : Heap) (Q : Value → Shared → Prop) (E : Value → Shared → Prop), (∀ b o, s.heap.get? b = some o → h'.get? b = some o) → Q (.ref I) { s with heap := h' } → wpAny (model prog w) A (pyIter (.ref I)) Q E { s with heap := h' })
    (D : PSrc prog w A.in1.in1 I s.heap.objs.size wr n Rel St) (hst : ∀ h' : Heap, (∀ b o, s.heap.get? b = some o → h'.get? b = some o) → St 0 h') (hn : n ≤ sizeLine)
    (hQ : ∀ h' tk acc c, h'.get? s.heap.objs.size = some { cls := .type "list", dict := none, data := .seq acc c, slots := #[] } → PAcc Rel s.heap.objs.size wr acc n h' → (∀ b o, b ∉ wr → s.heap.get? b = some o → h'.get? b = some o) → Q (.ref s.heap.objs.size) { s with heap := h', toks := tk }) :
    wpAny (model prog w) A (call (.type "list") [.ref I]) Q E s := by
  have hSI : s.heap.objs.size ≠ I := Nat.ne_of_gt hI
  refine callType_codes (Q₁ := fun obj s₁ => obj = .ref s.heap.objs.size ∧ s₁ = { s with heap := s.heap.push { cls := .type "list", data := .seq #[] } }) F.called_list (F.typeCall_list_1 _) F.entry_list_init
    (code_list_new _ ⟨rfl, rfl⟩) fun obj s₁ h₁ => ?_
  obtain ⟨rfl, rfl⟩ := h₁
  have hS : (s.heap.push { cls := .type "list", data := .seq #[] }).get? s.heap.objs.size = some { cls := .type "list", data := .seq #[] } := Heap.get?_push_size _ rfl
  refine ⟨⟨_, hS, rfl⟩, F.args_list_init_2 _ _, ?_⟩
  show wpAny _ A.in1.in1 (do let old ← Builtin.List.listItems (.ref s.heap.objs.size); Builtin.List.listUpdate (.ref s.heap.objs.size) (fun _ => #[]); letGo old.toList.reverse; Builtin.List.listExtendWith (.ref s.heap.objs.size) (.ref I) .none) _ _ _
  refine wpAny_bind ?_
  unfold Builtin.List.listItems
  refine wpAny_bind (wpAny_seqItems hS rfl (wpAny_pure ?_))
  show wpAny _ A.in1.in1 (updateSeq s.heap.objs.size (fun _ => #[]) >>= fun _ => letGo (#[] : Array Value).toList.reverse >>= fun _ => Builtin.List.listExtendWith (.ref s.heap.objs.size) (.ref I) .none) _ _ _
  refine wpAny_bind (wpAny_updateSeq hS rfl ?_)
  have hS2 := Heap.get?_update_self (Obj.mapSeq (fun _ => (#[] : Array Value))) hS rfl
  generalize hh1 : (s.heap.push { cls := .type "list", data := .seq #[] }).update s.heap.objs.size (Obj.mapSeq (fun _ => (#[] : Array Value))) = h1 at hS2 ⊢
  have k1 : ∀ b o, s.heap.get? b = some o → h1.get? b = some o := fun b o e => by
    rw [← hh1]
    exact (Heap.get?_update_other _ _ (Ne.symm (Nat.ne_of_lt (Heap.lt_size e)))).trans (Heap.get?_push_of_some _ e)
  refine wpAny_bind (wpAny_letGo ?_)
  unfold Builtin.List.listExtendWith
  refine wpAny_bind (wpAny_typeOf (hT h1 k1) ?_)
  have h1f : Builtin.List.listSameRef (.ref s.heap.objs.size) (.ref I) = false := by simp [Builtin.List.listSameRef, hSI]
  simp only [h1f, h2, h3, Bool.or_false, Bool.false_eq_true, if_false]
  refine wpAny_bind (hself _ h1 _ _ k1 ?_)
  refine wpAny_bind (wpAny_holding ?_)
  unfold Builtin.List.listLengthHint
  refine wpAny_bind (wpAny_specialOf (hT h1 k1) hl ?_)
  show wpAny _ A.in1.in1 (specialOf (Value.ref I) (Str.ofString "__length_hint__") >>= _) _ _ _
  refine wpAny_bind (wpAny_specialOf (hT h1 k1) hn0 ?_)
  refine wpAny_pure ?_
  show wpAny _ A.in1.in1 (rule "list.extend.makes-room" >>= fun _ => Builtin.List.listTouch (.ref s.heap.objs.size) >>= fun _ =>
    again (.builtin "list.extend.loop" ⟨[.ref s.heap.objs.size, .ref I, .none], []⟩)) _ _ _
  refine wpAny_bind (wpAny_rule ?_)
  refine wpAny_bind ?_
  show wpAny _ A.in1.in1 (updateSeq s.heap.objs.size (·.push .none) >>= fun _ => updateSeq s.heap.objs.size (·.pop)) _ _ _
  refine wpAny_bind (wpAny_updateSeq hS2 rfl ?_)
  have hS3 := Heap.get?_update_self (Obj.mapSeq (·.push Value.none)) hS2 rfl
  refine wpAny_updateSeq hS3 rfl ?_
  have hS4 := Heap.get?_update_self (Obj.mapSeq (·.pop)) hS3 rfl
  generalize hh2 : (h1.update s.heap.objs.size (Obj.mapSeq (·.push Value.none))).update s.heap.objs.size (Obj.mapSeq (·.pop)) = h2 at hS4 ⊢
  have k2 : ∀ b o, s.heap.get? b = some o → h2.get? b = some o := fun b o e => by
    rw [← hh2]
    exact (Heap.get?_update_other _ _ (Ne.symm (Nat.ne_of_lt (Heap.lt_size e)))).trans ((Heap.get?_update_other _ _ (Ne.symm (Nat.ne_of_lt (Heap.lt_size e)))).trans (k1 b o e))
  refine wpAny_pure ⟨plainId_quiet F.plain_extend_loop _, loop_pairs D hn _ n 0 _ _ _ rfl (Nat.zero_le _) (hst h2 k2) hS4 ⟨rfl, fun j v h => by simp at h⟩ fun h' tk acc c a1 a2 a3 => ?_⟩
  exact ⟨rfl, hQ h' tk acc c a1 a2 fun b o q1 e => a3 b o (Nat.ne_of_lt (Heap.lt_size e)) q1 (k2 b o e)⟩
end

/-- zip over any two is such an iterator -/
theorem zipSrc {prog : Program} {w : World} {A : Around} {S z TI TO i1 i2 : Addr} {fp1 fp2 : List Addr} {n1 n2 : Nat} {P1 P2 : Nat → Value → Prop} {St1 St2 : Nat → Heap → Prop} (Z : ZipSep2 z TI TO i1 i2 fp1 fp2)
    (D1 : ∀ A : Around, A.handled = none → Draws prog w A i1 fp1 n1 P1 St1) (D2 : ∀ A : Around, A.handled = none → Draws prog w A i2 fp2 n2 P2 St2) (hA : A.handled = none) (hS : S ∉ z :: TI :: TO :: (fp1 ++ fp2)) :
    PSrc prog w A z S [z, TO, i1, i2] (min n1 n2) (fun i k v => P1 i k ∧ P2 i v) (fun i h => IsTupOf2 h TI (.ref i1) (.ref i2) ∧ St1 i h ∧ St2 i h ∧ (∃ o, h.get? z = some o) ∧ (∃ o, h.get? TO = some o) ∧
      ((IsZip h z TI TO .none ∧ ∃ a b, IsTupOf2 h TO a b) ∨ ∃ T f oT, IsZipHeld h z TI TO T f ∧ h.get? T = some oT ∧ T ≠ z ∧ T ≠ i1 ∧ T ≠ i2 ∧ T ≠ S)) := by
  have dz : S ≠ z := fun e => hS (by rw [e]; exact List.mem_cons_self)
  have dI : S ≠ TI := fun e => hS (by rw [e]; exact List.mem_cons_of_mem _ List.mem_cons_self)
  have dO : S ≠ TO := fun e => hS (by rw [e]; exact List.mem_cons_of_mem _ (List.mem_cons_of_mem _ List.mem_cons_self))
  have d1 : ∀ b ∈ fp1, b ≠ S := fun b hb e => hS (by rw [← e]; exact List.mem_cons_of_mem _ (List.mem_cons_of_mem _ (List.mem_cons_of_mem _ (List.mem_append_left _ hb))))
  have d2 : ∀ b ∈ fp2, b ≠ S := fun b hb e => hS (by rw [← e]; exact List.mem_cons_of_mem _ (List.mem_cons_of_mem _ (List.mem_cons_of_mem _ (List.mem_append_right _ hb))))
  have hA1 : A.in1.handled = none := by simp [hA]
  exact {
    off := fun hm => by
      have e : S = z ∨ S = TO ∨ S = i1 ∨ S = i2 := by simpa using hm
      rcases e with e | e | e | e
      · exact dz e
      · exact dO e
      · exact d1 i1 Z.mem1 e.symm
      · exact d2 i2 Z.mem2 e.symm
    frame := fun i h1 h2 st k => by
      obtain ⟨hI, a1, a2, ⟨oz, ez⟩, ⟨oO, eO⟩, hz⟩ := st
      refine ⟨k _ _ (Ne.symm dI) hI, (D1 A hA).frame _ _ _ a1 fun b hb o e => k b o (d1 b hb) e, (D2 A hA).frame _ _ _ a2 fun b hb o e => k b o (d2 b hb) e, ⟨_, k _ _ (Ne.symm dz) ez⟩, ⟨_, k _ _ (Ne.symm dO) eO⟩, ?_⟩
      rcases hz with ⟨hz, a, b, hO⟩ | ⟨T, f, oT, hz, gT, r1, r2, r3, r4⟩
      · exact .inl ⟨k _ _ (Ne.symm dz) hz, a, b, k _ _ (Ne.symm dO) hO⟩
      · exact .inr ⟨T, f, oT, k _ _ (Ne.symm dz) hz, k _ _ r4 gT, r1, r2, r3, r4⟩
    item := fun i s1 Q1 E1 hi st hds hQ => by
      obtain ⟨hI, a1, a2, ⟨oz, ez⟩, ⟨oO, eO⟩, hz⟩ := st
      have b1 : i < n1 := Nat.lt_of_lt_of_le hi (Nat.min_le_left ..)
      have b2 : i < n2 := Nat.lt_of_lt_of_le hi (Nat.min_le_right ..)
      have lt : ∀ {c o}, s1.heap.get? c = some o → s1.heap.objs.size ≠ c := fun e => Nat.ne_of_gt (Heap.lt_size e)
      have m1 : s1.heap.objs.size ≠ i1 := let ⟨_, e⟩ := (D1 A hA).live _ _ a1; lt e
      have m2 : s1.heap.objs.size ≠ i2 := let ⟨_, e⟩ := (D2 A hA).live _ _ a2; lt e
      have mw : s1.heap.objs.size ∉ [z, TO, i1, i2] := fun hm => by
        have e : s1.heap.objs.size = z ∨ s1.heap.objs.size = TO ∨ s1.heap.objs.size = i1 ∨ s1.heap.objs.size = i2 := by simpa using hm
        rcases e with e | e | e | e
        · exact lt ez e
        · exact lt eO e
        · exact m1 e
        · exact m2 e
      rcases hz with ⟨hz, a, b, hO⟩ | ⟨T, f, oT, hz, gT, r1, r2, r3, r4⟩
      · refine wpAny_pyNext_zipD2_item Z (D1 _ hA1) (D2 _ hA1) hz hI hO a1 a2 b1 b2 fun x y h' tk p1 p2 q1 q2 q3 q4 q5 q6 k => ?_
        refine hQ s1.heap.objs.size x y h' tk ⟨p1, p2⟩ q5 (Nat.ne_of_gt hds) mw ⟨k _ _ Z.TIz Z.TITO Z.TIi1 Z.TIi2 hI, q3, q4, ⟨_, q1⟩, ?_, .inr ⟨s1.heap.objs.size, false, _, q1, q5, lt hz, m1, m2, Nat.ne_of_gt hds⟩⟩ fun c o hc e => ?_
        · exact ⟨_, q2⟩
        · simp only [List.mem_cons, List.not_mem_nil, or_false, not_or] at hc
          exact k c o hc.1 hc.2.1 hc.2.2.1 hc.2.2.2 e
      · refine zh_next Z (D1 _ hA1) (D2 _ hA1) hz gT hI a1 a2 b1 b2 fun x y h' tk p1 p2 q1 q3 q4 q5 k => ?_
        refine hQ s1.heap.objs.size x y h' tk ⟨p1, p2⟩ q5 (Nat.ne_of_gt hds) mw ⟨k _ _ Z.TIz Z.TIi1 Z.TIi2 hI, q3, q4, ⟨_, q1⟩, ⟨_, k _ _ Z.TOz (fun e => Z.Tf1 (e ▸ Z.mem1)) (fun e => Z.Tf2 (e ▸ Z.mem2)) eO⟩, .inr ⟨T, true, oT, q1, k _ _ r1 r2 r3 gT, r1, r2, r3, r4⟩⟩ fun c o hc e => ?_
        simp only [List.mem_cons, List.not_mem_nil, or_false, not_or] at hc
        exact k c o hc.1 hc.2.2.1 hc.2.2.2 e
    done := fun s1 Q1 E1 st hQ => by
      obtain ⟨hI, a1, a2, _, _, hz⟩ := st
      have e0 : min n1 n2 = n1 ∨ min n1 n2 = n2 := by omega
      rcases hz with ⟨hz, a, b, hO⟩ | ⟨T, f, oT, hz, gT, r1, r2, r3, r4⟩
      · refine wpAny_pyNext_zipD2_end Z (D1 _ hA1) (D2 _ hA1) hz hI hO a1 a2 (Nat.min_le_left ..) (Nat.min_le_right ..) e0 fun h' tk k => hQ h' tk fun c o hc e => ?_
        simp only [List.mem_cons, List.not_mem_nil, or_false, not_or] at hc
        exact k c o hc.1 hc.2.1 hc.2.2.1 hc.2.2.2 e
      · refine zh_done Z (D1 _ hA1) (D2 _ hA1) hz gT hI a1 a2 (Nat.min_le_left ..) (Nat.min_le_right ..) e0 fun h' tk k => hQ h' tk fun c o hc e => ?_
        simp only [List.mem_cons, List.not_mem_nil, or_false, not_or] at hc
        exact k c o hc.1 hc.2.2.1 hc.2.2.2 e }
/-! dict(list(zip(texts, text))) -/
theorem vals_by : ∀ {xs : List V} {us : List Value}, xs.length = us.length → (∀ j, j < us.length → ∃ x u, xs[j]? = some x ∧ us[j]? = some u ∧ RelV x u) → Vals xs us
  | [], [], _, _ => .nil
  | [], _ :: _, h, _ => by simp at h
  | _ :: _, [], h, _ => by simp at h
  | x :: xs, u :: us, h, k => by
    obtain ⟨x', u', e1, e2, r⟩ := k 0 (by simp)
    simp at e1 e2
    subst e1 e2
    exact .cons r (vals_by (by simpa using h) fun j hj => by
      obtain ⟨x', u', e1, e2, r⟩ := k (j + 1) (by simpa using hj)
      exact ⟨x', u', by simpa using e1, by simpa using e2, r⟩)
def chS (y : Str) : List Str := y.cps.toList.map fun k => (⟨#[k]⟩ : Str)
def tDictLZ (K : PySem.W.Frag) (ta : TA) : TE := fun σ H Q => ta σ H fun zs H1 => ∃ (l : Addr) (xs : List Str) (y : Str), zs = [.ref l, .str y] ∧ SqL K H1 l (xs.map V.str) ∧ y.cps.size = xs.length ∧ xs.Nodup ∧ xs.length ≤ 1000 ∧
  ∀ T, H1 T = none → Q (.ref T) (upd H1 T (.dK ((xs.zip (chS y)).map fun p => (Sum.inr p.1, V.str p.2))))
theorem kv_zip : ∀ {xs : List Str} {ys : List Str} {us ws : List Value}, Vals (xs.map V.str) us → Vals (ys.map V.str) ws → xs.length = ys.length → KV ((xs.zip ys).map fun p => ((Sum.inr p.1 : Key), V.str p.2)) ((xs.zip ws).map fun p => ((Sum.inr p.1 : Key), p.2))
  | [], _, _, _, _, _, _ => .nil
  | _ :: _, [], _, _, _, _, h => by simp at h
  | x :: xs, y :: ys, _, _, r, q, h => by
    cases r with
    | cons r1 r => cases q with
      | cons q1 q => exact .cons ⟨rfl, q1⟩ (kv_zip r q (by simpa using h))
theorem pe_dictLZ {X : Cx} {e e2 : Expr} {ta : TA} {j : Nat} {p p1 p2 q q1 pos : Pos} (hr : Room j X.A) (hc : X.calm = true) (hg : Gl X "dict") (hm : X.mg "dict" = none) (hg1 : Gl X "list") (hm1 : X.mg "list" = none) (hg2 : Gl X "zip") (hm2 : X.mg "zip" = none) (ha : PA X [e, e2] ta)
    (na0 : starEach [.Call (.Name "list" p1) [.Call (.Name "zip" p2) [e, e2] [] q] [] q1] X.env = (false, eval (.Call (.Name "list" p1) [.Call (.Name "zip" p2) [e, e2] [] q] [] q1) X.env) :: starEach [] X.env := by rfl)
    (na : starEach [.Call (.Name "zip" p2) [e, e2] [] q] X.env = (false, eval (.Call (.Name "zip" p2) [e, e2] [] q) X.env) :: starEach [] X.env := by rfl)
    (hs : starEach [e, e2] X.env = (false, eval e X.env) :: starEach [e2] X.env := by rfl) (hpl : (backTo q (starEach [e2] X.env)).any (fun z => z.1) = false := by rfl) :
    PE X (.Call (.Name "dict" p) [.Call (.Name "list" p1) [.Call (.Name "zip" p2) [e, e2] [] q] [] q1] [] pos) (tDictLZ X.K ta) := by
  refine ⟨fun pins s σ H Q I h => Call_ (ld_blt I hg hm PyProof.Rows.boot_dict (PyProof.Rows.callWith_type1 (PyProof.Rows.args_cons (Call_ (ld_blt I hg1 hm1 PyProof.Rows.boot_list (PyProof.Rows.callWith_type1 (PyProof.Rows.args_cons (Call_ (ld_blt I hg2 hm2 PyProof.Rows.boot_zip (PyProof.Rows.callWith_type1 (thn (ha.run q pins s σ H _ I h) fun zs s1 z => ?_) hs hpl))) na) na rfl))) na0) na0 rfl))⟩
  obtain ⟨ws, H1, I1, r1, l, xs, y, ex, hq, hy, hn, hz, qq⟩ := z
  subst ex
  cases r1 with
  | @cons _ v1 _ _ ra r1 => cases r1 with
    | @cons _ v2 _ _ rb r1 =>
      cases r1
      obtain rfl : v1 = Value.ref l := ra
      obtain ⟨t, rfl⟩ := rb
      obtain ⟨its, rv, pl, _⟩ := I1.list hq
      have lt1 : l < s1.heap.objs.size := pl.lt
      have n1 : its.length = xs.length := by rw [← rv.length, List.length_map]
      refine zip_begins2 (begins_list l its.toArray) (begins_text y t) pl.isList trivial fun h' hzip hTI hTO g1 g2 hsz hkp => PyProof.Rows.args_nil ?_
      have S := zip_sep2 (N := s1.heap.objs.size) (fp1 := [l]) (fp2 := []) (by simpa using lt1) (by simp)
      have D1 : ∀ A : Around, A.handled = none → Draws X.prog X.w A s1.heap.objs.size [s1.heap.objs.size, l] its.length (fun i v => its[i]? = some v) (fun i h => h.IsListIter s1.heap.objs.size l i ∧ h.IsList l its.toArray) := fun A hA => by
        have D := Draws.list (prog := X.prog) (w := X.w) hA s1.heap.objs.size l (Nat.ne_of_lt lt1) its.toArray
        simpa using D
      have D2 : ∀ A : Around, A.handled = none → Draws X.prog X.w A (s1.heap.objs.size + 1) [s1.heap.objs.size + 1] y.cps.size (fun i v => ∃ c u, y.cps[i]? = some c ∧ v = .str ⟨#[c]⟩ u) (fun i h => h.IsStrIter (s1.heap.objs.size + 1) (strIterType y) y t i) := fun A hA => Draws.text hA _ y t
      have hA := I1.ok.hd hc
      have hI : s1.heap.objs.size + 4 < h'.objs.size := by rw [hsz]; exact Nat.lt_succ_self _
      have fz : h'.objs.size ∉ (s1.heap.objs.size + 4) :: (s1.heap.objs.size + 2) :: (s1.heap.objs.size + 3) :: ([s1.heap.objs.size, l] ++ [s1.heap.objs.size + 1]) := fun hm => by
        rw [hsz] at hm
        have hl : l ≠ s1.heap.objs.size + 5 := (far lt1).2.2.2.2
        simp only [List.mem_cons, List.cons_append, List.nil_append, List.not_mem_nil, or_false] at hm
        rcases hm with e | e | e | e | e | e
        · exact absurd e (show (s1.heap.objs.size + 5 : Nat) ≠ s1.heap.objs.size + 4 by omega)
        · exact absurd e (show (s1.heap.objs.size + 5 : Nat) ≠ s1.heap.objs.size + 2 by omega)
        · exact absurd e (show (s1.heap.objs.size + 5 : Nat) ≠ s1.heap.objs.size + 3 by omega)
        · exact absurd e (show (s1.heap.objs.size + 5 : Nat) ≠ s1.heap.objs.size by omega)
        · exact hl e.symm
        · exact absurd e (show (s1.heap.objs.size + 5 : Nat) ≠ s1.heap.objs.size + 1 by omega)
      have PS := zipSrc (prog := X.prog) (w := X.w) (A := X.A.in1.in1) (S := h'.objs.size) S D1 D2 (by simp [hA]) fz
      have hmin : min its.length y.cps.size = xs.length := by rw [n1, hy]; exact Nat.min_self _
      rw [hmin] at PS
      refine call_list_pairs (s := { s1 with heap := h' }) zip_no_len zip_no_hint (by decide) (by decide) (fun h2 k => ⟨_, k _ _ hzip, rfl⟩) hI (fun A h2 Q E k hq => wpAny_pyIter_zip (k _ _ hzip) hq) PS
        (fun h2 k => ⟨k _ _ hTI, ⟨⟨_, k _ _ g1, rfl, rfl⟩, pl.isList.at fun o e => k l o (hkp _ _ e)⟩, ⟨_, k _ _ g2, rfl, rfl⟩, ⟨_, k _ _ hzip⟩, ⟨_, k _ _ hTO⟩, .inl ⟨k _ _ hzip, _, _, k _ _ hTO⟩⟩) (Nat.le_of_lt (small1000 hz)) fun h2 tk2 acc c2 hS2 hacc hk2 => ?_
      refine PyProof.Rows.args_nil ?_
      -- the new list, its pairs
      have ha0 : acc.size = xs.length := hacc.1
      have hget : ∀ j, j < xs.length → ∃ T k u, acc[j]? = some (.ref T) ∧ its[j]? = some k ∧ (∃ c u0, y.cps[j]? = some c ∧ u = .str ⟨#[c]⟩ u0) ∧ IsTupOf2 h2 T k u := fun j hj => by
        obtain ⟨T, k, u, e1, ⟨e2, e3⟩, e4, _⟩ := hacc.2 j acc[j] (by simp [ha0, hj])
        exact ⟨T, k, u, by rw [← e1]; simp [ha0, hj], e2, e3, e4⟩
      let Ts : Nat → Addr := fun j => match (acc[j]? : Option Value) with
        | some (Value.ref T) => T
        | _ => 0
      let us : List Value := (List.range xs.length).map fun j => match (acc[j]? : Option Value) with
        | some (Value.ref T) => (match h2.get? T with
          | some o => (match o.data with
            | .seq vs _ => vs[1]?.getD .none
            | _ => .none)
          | _ => .none)
        | _ => .none
      have hus : ∀ j, j < xs.length → ∃ T k u, acc[j]? = some (.ref T) ∧ its[j]? = some k ∧ (∃ c u0, y.cps[j]? = some c ∧ u = .str ⟨#[c]⟩ u0) ∧ IsTupOf2 h2 T k u ∧ us[j]? = some u ∧ Ts j = T := fun j hj => by
        obtain ⟨T, k, u, e1, e2, e3, e4⟩ := hget j hj
        refine ⟨T, k, u, e1, e2, e3, e4, ?_, ?_⟩
        · show ((List.range xs.length).map _)[j]? = _
          rw [List.getElem?_map, List.getElem?_range hj]
          show some _ = _
          have e4 : h2.get? T = some { cls := .type "tuple", data := .seq #[k, u] } := e4
          simp only [e1, e4]
          rfl
        · show (match (acc[j]? : Option Value) with
            | some (Value.ref T) => T
            | _ => 0) = T
          rw [e1]
      have lus : us.length = xs.length := by
        show ((List.range xs.length).map _).length = _
        rw [List.length_map, List.length_range]
      have pit : PairItems h2 acc Ts (its.zip us) := by
        have lz : (its.zip us).length = xs.length := by rw [List.length_zip, n1, lus]; exact Nat.min_self _
        refine ⟨by rw [lz]; exact ha0, fun j k v hj => ?_⟩
        have hjl : j < xs.length := by
          have := (List.getElem?_eq_some_iff.mp hj).1
          rw [lz] at this; exact this
        obtain ⟨T, k', u, e1, e2, _, e4, e5, e6⟩ := hus j hjl
        rw [List.getElem?_zip_eq_some] at hj
        obtain ⟨h1, h2'⟩ := hj
        rw [e2] at h1
        rw [e5] at h2'
        cases h1
        cases h2'
        rw [e6]
        exact ⟨e1, .inl ⟨_, e4, rfl, _, rfl⟩⟩
      have lz : (its.zip us).length = xs.length := by rw [List.length_zip, n1, lus]; exact Nat.min_self _
      have rus : Vals ((chS y).map V.str) us := by
        have lc : (chS y).length = xs.length := by
          show (y.cps.toList.map _).length = _
          rw [List.length_map, Array.length_toList, hy]
        refine vals_by (by rw [List.length_map, lc, lus]) fun j hj => ?_
        rw [lus] at hj
        obtain ⟨T, k', u, e1, e2, ⟨c, u0, e3, rfl⟩, e4, e5, e6⟩ := hus j hj
        refine ⟨.str ⟨#[c]⟩, _, ?_, e5, ⟨_, rfl⟩⟩
        show ((y.cps.toList.map fun k => (⟨#[k]⟩ : Str)).map V.str)[j]? = _
        rw [List.getElem?_map, List.getElem?_map, Array.getElem?_toList, e3]; rfl
      refine call_dict_pairs (kvs := (xs.zip us).map fun p => ((Sum.inr p.1 : Key), p.2)) (knd := mixKind X.prog X.w) (PairArg.list (prog := X.prog) (w := X.w) h'.objs.size acc Ts (its.zip us)) hA ⟨⟨_, _, hS2, rfl, rfl, rfl⟩, pit⟩ ⟨?_, fun i key v hrel => ?_⟩ ?_ fun h3 tk3 hd hk3 => ?_
      · rw [List.length_map, List.length_zip, lz, lus]; exact Nat.min_self _
      · have hrel : (its.zip us)[i]? = some (key, v) := hrel
        rw [List.getElem?_zip_eq_some] at hrel
        obtain ⟨e1, e2⟩ := hrel
        have hi : i < xs.length := by
          rw [← n1]
          exact (List.getElem?_eq_some_iff.mp e1).1
        have hx : (xs.map V.str)[i]? = some (.str xs[i]) := by rw [List.getElem?_map, List.getElem?_eq_getElem hi]; rfl
        obtain ⟨u, hu, ru⟩ := rv.get hx
        rw [e1] at hu
        cases hu
        obtain ⟨t', rfl⟩ := ru
        refine ⟨Sum.inr xs[i], ?_, mixKind_str X.prog X.w xs[i] t'⟩
        rw [List.getElem?_map, (List.getElem?_zip_eq_some (l₁ := xs) (l₂ := us) (z := (xs[i], v)) (i := i)).mpr ⟨List.getElem?_eq_getElem hi, e2⟩]; rfl
      · rw [lz]; exact Nat.le_of_lt (small1000 hz)
      · have nd : (((xs.zip us).map fun p => ((Sum.inr p.1 : Key), p.2)).map (·.1)).Nodup := by
          have e : ((xs.zip us).map fun p => ((Sum.inr p.1 : Key), p.2)).map (·.1) = xs.map Sum.inr := by
            rw [List.map_map]
            have : ((xs.zip us).map Prod.fst) = xs := List.map_fst_zip (by rw [lus]; exact Nat.le_refl _)
            conv => rhs; rw [← this]
            rw [List.map_map]; rfl
          rw [e]
          exact List.pairwise_map.mpr (List.Pairwise.imp (fun h z => h (Sum.inr.inj z)) hn)
        rw [merged_nil_of_nodup _ nd] at hd
        have kp : ∀ b o, s1.heap.get? b = some o → h3.get? b = some o := fun b o e => by
          have hlt : b < s1.heap.objs.size := Heap.lt_size e
          obtain ⟨f1, f2, f3, f4, _⟩ := far hlt
          refine hk3 b o (fun hm => nomatch hm) (hk2 b o (fun hm => ?_) (hkp b o e))
          simp only [List.mem_cons, List.not_mem_nil, or_false] at hm
          rcases hm with z | z | z | z
          · exact f1 z
          · exact f2 z
          · exact f3 z
          · exact f4 z
        have hbig : sysModules < s1.heap.objs.size := I1.big
        have hle : s1.heap.objs.size ≤ h2.objs.size := by
          have a1 : h'.objs.size < h2.objs.size := Heap.lt_size hS2
          have a2 : s1.heap.objs.size ≤ h'.objs.size := by rw [hsz]; exact Nat.le_add_right _ _
          exact Nat.le_trans a2 (Nat.le_of_lt a1)
        have hf : H1 h2.objs.size = none := I1.hok.fresh hle
        refine ⟨.ref h2.objs.size, _, I1.laid (a := h2.objs.size) (t' := tk3) kp hle ?_, rfl, qq _ hf⟩
        refine ⟨?_, beq_eq_false_iff_ne.mpr (fun z => absurd hbig (Nat.not_lt.mpr (by rw [← z]; exact hle))), _, kv_zip rv rus ?_, hd⟩
        · rw [List.length_map, List.length_zip]; exact Nat.le_trans (Nat.min_le_left _ _) (Nat.le_of_lt (small1000 hz))
        · show xs.length = (y.cps.toList.map fun k => (⟨#[k]⟩ : Str)).length
          rw [List.length_map, Array.length_toList]
          exact hy.symm
theorem chS_len (y : Str) : (chS y).length = y.cps.size := by
  unfold chS
  rw [List.length_map, Array.length_toList]
def dDictLZ (ax : Da) : Dn := fun ρ s => (ax ρ s).bind fun p => match p.1 with
  | [.lst ds, .str y] => (strsOf ds).bind fun xs => if y.cps.size = xs.length ∧ xs.Nodup ∧ xs.length ≤ 1000 then some (.dS (xs.zip ((chS y).map D.str)), p.2) else none
  | _ => none
theorem repS_zip {K : Kx} {c : Option Addr} {I : Hp} : ∀ (xs ys : List Str), RepS K c I ((xs.zip ys).map fun p => ((Sum.inr p.1 : Key), V.str p.2)) (xs.zip (ys.map D.str))
  | [], _ => .nil
  | _ :: _, [] => .nil
  | x :: xs, y :: ys => .cons (.str y) (repS_zip xs ys)
theorem sn_dictLZ {K : Kx} {ta : TA} {ax : Da} (h1 : SndA K ta ax) : SndE K (tDictLZ K ta) (dDictLZ ax) := fun c I H σ ρ s d s' e h Q q => by
  obtain ⟨⟨x, s1⟩, h2, h⟩ := bind_some_of h
  refine h1 _ _ _ _ _ _ _ _ e h2 _ fun v I1 H1 g1 w1 r1 => ?_
  split at h
  · rename_i ds y hd
    have hd : x = [.lst ds, .str y] := hd
    subst hd
    obtain ⟨xs, h3, h⟩ := bind_some_of h
    split at h
    · rename_i hh
      obtain ⟨hl, hn, hz⟩ := hh
      cases h
      cases r1 with
      | cons ra r => cases r with
        | cons rb r =>
          cases r
          cases rb
          cases ra with
          | lst hI rl =>
            rw [strsOf_rep rl h3] at hI
            refine ⟨_, xs, y, rfl, .of (g1.s2.lst hI), hl, hn, hz, fun T hT => ?_⟩
            have g := Gr.new (o := .dK ((xs.zip (chS y)).map fun p => ((Sum.inr p.1 : Key), V.str p.2))) g1.s2 hT
            exact q _ _ _ (g1.tr w1 g.up) (w1.gr g) (.dS upd_same (repS_zip xs (chS y)))
    · cases h
  · cases h
theorem ee_dictLZ {X : Cx} {e e2 : Expr} {ta : TA} {ax : Da} {j : Nat} {p p1 p2 q q1 pos : Pos} (hr : Room j X.A) (hc : X.calm = true) (hg : Gl X "dict") (hm : X.mg "dict" = none) (hg1 : Gl X "list") (hm1 : X.mg "list" = none) (hg2 : Gl X "zip") (hm2 : X.mg "zip" = none) (ha : EA X [e, e2] ta ax)
    (na0 : starEach [.Call (.Name "list" p1) [.Call (.Name "zip" p2) [e, e2] [] q] [] q1] X.env = (false, eval (.Call (.Name "list" p1) [.Call (.Name "zip" p2) [e, e2] [] q] [] q1) X.env) :: starEach [] X.env := by rfl)
    (na : starEach [.Call (.Name "zip" p2) [e, e2] [] q] X.env = (false, eval (.Call (.Name "zip" p2) [e, e2] [] q) X.env) :: starEach [] X.env := by rfl)
    (hs : starEach [e, e2] X.env = (false, eval e X.env) :: starEach [e2] X.env := by rfl) (hpl : (backTo q (starEach [e2] X.env)).any (fun z => z.1) = false := by rfl) :
    EE X (.Call (.Name "dict" p) [.Call (.Name "list" p1) [.Call (.Name "zip" p2) [e, e2] [] q] [] q1] [] pos) (tDictLZ X.kx ta) (dDictLZ ax) := ⟨pe_dictLZ hr hc hg hm hg1 hm1 hg2 hm2 ha.p na0 na hs hpl, sn_dictLZ ha.s⟩
end Dl
end
section
set_option Elab.async false
set_option linter.all false
set_option maxRecDepth 100000
set_option maxHeartbeats 4000000
namespace Dl
open PySem PySem.Spec PyProof.Rows L2 StX RZ
/-! xs.append(e) on an owned list -/
section
variable {K : Kx} {c : Option Addr} {I0 H0 I H : Hp} {σ : L2.St} {ρ : List Sl} {s : Tau}
/-- what a slot owns is written -/
theorem EnvS.wr {i : Nat} {p : Addr} {d d' : D} {ob : HO} (e2 : EnvS K c I0 H0 I H σ ρ s) (hp : σ[i]? = some (some (V.ref p))) (hs : ρ[i]? = some (.ow d)) (new : OwOk K c I (upd H p ob) p d') : EnvS K c I0 H0 I (upd H p ob) σ (ρ.set i (.ow d')) s := by
  obtain ⟨p2, hp2, o2⟩ := e2.env.ow hs
  rw [hp] at hp2
  cases hp2
  obtain ⟨h3, h4⟩ := o2.fr
  have h0 := e2.fr i p _ hp hs
  have eq : σ.set i (some (V.ref p)) = σ := by
    apply List.ext_getElem?
    intro j
    by_cases z : i = j
    · subst z
      rw [List.getElem?_set]
      have hl := (List.getElem?_eq_some_iff.mp hp).1
      simp only [if_true, hl, hp]
    · rw [List.getElem?_set_ne z]
  have sl2 : ∀ {σ' : L2.St} {ρ' : List Sl}, (∀ (j : Nat) (d : D), σ'[j]? = some (some (V.ref p)) → ρ'[j]? = some (.ow d) → False) → SlL K c I H σ' ρ' → SlL K c I (upd H p ob) σ' ρ' := fun {σ' ρ'} n sl => by
    induction sl with
    | nil => exact .nil
    | @cons v x σ2 ρ2 a r ih =>
      refine .cons ?_ (ih fun j d z1 z2 => n (j + 1) d (by simpa using z1) (by simpa using z2))
      cases a with
      | un => exact .un _
      | im a => exact .im a
      | @ow p2 d2 o2 =>
        have np : p2 ≠ p := fun z => n 0 d2 (by rw [z]; rfl) rfl
        refine .ow ?_
        cases o2 with
        | lst h1 h2 h3 h4 => exact .lst (by rw [upd_ne np]; exact h1) h2 h3 h4
        | dS h1 h2 h3 h4 => exact .dS (by rw [upd_ne np]; exact h1) h2 h3 h4
        | dsk h1 r1 r2 r3 h3 h4 => exact .dsk (by rw [upd_ne np]; exact h1) r1 r2 r3 h3 h4
  have slot := SlL.set (v := some (V.ref p)) (x := .un) (.un _) i e2.env.sl
  rw [eq] at slot
  have s2' := sl2 (σ' := σ) (ρ' := ρ.set i .un) (fun j d' z1 z2 => by
    by_cases z : i = j
    · subst z
      rw [List.getElem?_set] at z2
      simp only [if_true] at z2
      split at z2 <;> cases z2
    · rw [List.getElem?_set_ne z] at z2
      exact e2.env.uq i j p _ d' z hp z1 hs z2) slot
  have s3 := SlL.set (v := some (V.ref p)) (x := .ow d') (.ow new) i s2'
  rw [eq, List.set_set] at s3
  refine ⟨⟨e2.env.sub.updH h3, fun rr hr => ?_, s3, ?_⟩, e2.s0, e2.kp.updH h0, e2.nw, fun j q' d'' h1' h2' => ?_, e2.nc⟩
  · obtain ⟨z1, sc, z2, z3⟩ := e2.env.w rr hr
    have n : rr ≠ p := fun z => h4 (by rw [hr, z])
    exact ⟨z1, sc, by rw [upd_ne n]; exact z2, z3⟩
  · have u := Uq.setO (i := i) (p := p) (d := d') e2.env (fun j d' nj z1 z2 => e2.env.uq i j p _ d' (Ne.symm nj) hp z1 hs z2)
    rw [eq] at u
    exact u
  · by_cases z : i = j
    · subst z
      rw [hp] at h1'; cases h1'
      exact h0
    · rw [List.getElem?_set_ne z] at h2'
      exact e2.fr j q' d'' h1' h2'
end
def dApp (i : Nat) (dv : Dn) : Ds := fun ρ s => match ρ[i]? with
  | some (.ow (.lst ds)) => (dv ρ s).bind fun v => if ds.length < 1000000 then some (.nx (ρ.set i (.ow (.lst (ds ++ [v.1])))), v.2) else none
  | _ => none
theorem ss_app {K : Kx} {tv : TE} {dv : Dn} (i : Nat) (hv : SndE K tv dv) : SndS K (tDrop (tBM K "list" rAppend (tVar i) (tCons tv tNil))) (dApp i dv) := fun c I0 H0 I H σ ρ s o s' e h En q => by
  unfold dApp at h
  split at h
  · rename_i ds hs
    obtain ⟨⟨y, s1⟩, ha, h⟩ := bind_some_of h
    split at h
    · rename_i hl
      cases h
      obtain ⟨p, hp, o0⟩ := e.env.ow hs
      have ty : tyV K.f "list" (.ref p) H := by
        cases o0 with
        | lst h1 _ _ _ => exact .inl ⟨rfl, _, .of h1⟩
      refine ⟨.ref p, hp, ty, ?_⟩
      refine hv _ _ _ _ _ _ _ _ e.env ha _ fun v I1 H1 g1 w1 r1 => ?_
      have e1 := e.grow g1 w1
      obtain ⟨p2, hp2, o2⟩ := e1.env.ow hs
      rw [hp] at hp2
      cases hp2
      cases o2 with
      | @lst vs _ h1 h2 h3 h4 =>
        exact ⟨p, vs, v, rfl, rfl, h1, by rw [h2.length]; exact Nat.lt_of_lt_of_le hl (by decide), q _ I1 _ (e1.wr hp hs (.lst upd_same (h2.app (.one r1)) h3 h4))⟩
    · cases h
  · cases h
theorem es_app {X : Cx} {x : Str} {px apos cpos pos : Pos} {v : Expr} {tv : TE} {dv : Dn} (i : Nat) (hx : EE X (.Name x px) (tVar i) (dVar i)) (hv : EE X v tv dv)
    (hbase : attributeBase (.Name x px) "append" X.env (eval (.Name x px) X.env) = eval (.Name x px) X.env := by rfl)
    (hfew : ((backTo cpos (starEach [v] X.env)).all (fun x => !x.1) && (backToKw cpos (keywordEach [] X.env)).all (fun x => x.1.isSome) && decide (([v] : List Expr).length + ([] : List Keyword).length + (if ([] : List Keyword).isEmpty then 0 else 1) < 30)) = true := by rfl)
    (hline : (apos.endLine == cpos.line) = true := by rfl) (hs1 : starEach [v] X.env = (false, eval v X.env) :: starEach [] X.env := by rfl) (hplain : (backTo cpos (starEach [] X.env)).any (fun z => z.1) = false := by rfl)
    (hs : swapsWith (.Call (.Attribute (.Name x px) "append" apos) [v] [] cpos) none pos.line X.env = pure false := by rfl) :
    ES X (.Expr (.Call (.Attribute (.Name x px) "append" apos) [v] [] cpos) pos) (tDrop (tBM X.kx "list" rAppend (tVar i) (tCons tv tNil))) (dApp i dv) :=
  ⟨ps_expr (pe_bm PySem.F.plainAttrs_list PySem.F.slot_list_append PySem.F.type_list_append mt_append hx.p (pa_cons hv.p pa_nil hs1) hbase hfew hline hs1 hplain) hs, ss_app i hv.s⟩
theorem ef_lst {X : Cx} {es : List Expr} {tx : TA} {ax : Da} {pos : Pos} (h : EA X es tx ax) : EF X (.List es pos) (tLst tx) (dLst ax) := ⟨(ee_lst h).p, sf_lst h.s⟩
/-! list(x) of a tuple or a list -/
def rListOf (K : PySem.W.Frag) : List V → Hp → VK → Prop := fun xs H Q => ∃ p ys, xs = [.ref p] ∧ (SqL K H p ys ∨ SqT K H p ys) ∧ ∀ l, H l = none → Q (.ref l) (upd H l (.lst ys))
theorem cr_listOf {X : Cx} : CallR X (.type "list") (rListOf X.K) := call_list_of
def listD : List D → Option D
  | [d] => (seqOf d).map D.lst
  | _ => none
theorem sl_list {K : Kx} : SndL K (rListOf K) listD := fun c I H xs ds z s rx h Q q => by
  unfold listD at h
  split at h
  · obtain ⟨zs, h1, rfl⟩ := map_some_of h
    cases rx with
    | cons a r =>
      cases r
      obtain ⟨ys, ⟨l, rfl, hl⟩, rl⟩ := seqOf_rep a s h1
      refine ⟨l, ys, rfl, hl, fun p hp => ?_⟩
      have g := Gr.new (o := .lst ys) s hp
      exact q _ _ _ g (.lst upd_same (rl.mono g.s1))
  · cases h
end Dl
end
section
set_option Elab.async false
set_option linter.all false
set_option maxRecDepth 100000
set_option maxHeartbeats 4000000
namespace Dl
open PySem PySem.Spec PyProof.Rows L2 StX RZ HotX
/-! where an exception is handled: the end of a list's walk, comprehensions over a list -/
theorem list_end_hot {prog : Program} {w : World} {A : Around} {E : Value → Shared → Prop} {s : Shared} {it l x1 : Addr} {i : Nat} {items : Array Value} {Q : Option Value → Shared → Prop} (hot : HotAt A x1 s.heap) (hne : x1 ≠ it)
    (hit : s.heap.IsListIter it l i) (hl : s.heap.IsList l items) (hx : items[i]? = none)
    (hQ : ∀ h', (∀ b o, b ≠ it → s.heap.get? b = some o → h'.get? b = some o) → Q none { s with heap := h' }) : wpAny (model prog w) A (pyNext (.ref it)) Q E s := by
  obtain ⟨o, ho, hc, hd⟩ := id hit
  obtain ⟨ol, hol, _, nl, hdl⟩ := hl
  obtain ⟨hh, o1, vs1, h1, d1, c1⟩ := hot
  unfold pyNext
  refine wpAny_bind (wpAny_attempt (wpAny_callSpecial?_slot (name := Str.ofString "__next__") hit.typeIs slot_listiter_next
    (wpAny_call_entry slot_listiter_next hit.typeIs entry_listiter_next ?_ (args_listiter_next _))))
  show wpAny _ _ (field (.ref it) 0 >>= _) _ _ s
  refine wpAny_bind (wpAny_field ho hd (x := .ref l) rfl ?_)
  show wpAny _ _ (if (Value.ref l == Value.none) = true then _ else _) _ _ s
  rw [if_neg (show ¬ ((Value.ref l == Value.none) = true) from Bool.false_ne_true)]
  show wpAny _ _ (field (.ref it) 1 >>= _) _ _ s
  refine wpAny_bind (wpAny_field ho hd (x := .int i 0) rfl ?_)
  show wpAny _ _ (seqItems? (.ref l) >>= _) _ _ s
  refine wpAny_bind (wpAny_seqItems hol hdl ?_)
  simp only [Int.toNat_natCast, hx]
  refine wpAny_bind (wpAny_rule (wpAny_bind (wpAny_setField ho hd (by simp) ?_)))
  show wpAny _ _ (newExc (.type "StopIteration") [] >>= _) _ _ _
  refine wpAny_bind ?_
  simp only [newExc, newTuple]
  refine wpAny_bind (wpAny_newObj_type ?_ (by size_fits))
  refine wpAny_bind (m := firstArgMember _ _) (wpAny_of_eq (a := Value.none) (by first | rfl | (simp only [firstArgMember]; rfl)) ?_)
  refine wpAny_newObj_type ?_ (by size_fits)
  have k1 : ∀ b ob, b ≠ it → s.heap.get? b = some ob → (s.heap.update it (Obj.mapFields (·.setIfInBounds 0 .none))).get? b = some ob := fun b ob hb e => (Heap.get?_update_other _ _ (Ne.symm hb)).trans e
  have h1' := k1 x1 o1 hne h1
  refine raiseNew_hot ⟨hh, o1, vs1, Heap.get?_push_of_some _ (Heap.get?_push_of_some _ h1'), d1, c1⟩ (Nat.ne_of_lt (Heap.lt_size (Heap.get?_push_of_some _ h1'))) (Heap.get?_push_size _ rfl) rfl (by first | (simp; done) | (simp; omega) | (simp only [Array.size_append]; simp; omega)) ?_
  refine wpAny_bind (wpAny_isInstance (T := "StopIteration") (b := true) ⟨_, Heap.get?_update_self _ (Heap.get?_push_size _ rfl) rfl, rfl⟩ isSubtype_stop ?_)
  refine wpAny_pure (hQ _ fun b o hb e => ?_)
  have e' := k1 b o hb e
  rw [Heap.get?_update_other _ _ (Nat.ne_of_gt (Heap.lt_size (Heap.get?_push_of_some _ e')))]
  exact Heap.get?_push_of_some _ (Heap.get?_push_of_some _ e')

section
variable {X : Cx}
/-- [elt for target in xs if ..] where an exception is handled -/
theorem pe_lcH {elt tg iter : Expr} {ifs : List Expr} {scope : Scope} {own : List (Str × Nat)} {pos : Pos} {tl : TE} {g : TG} {tt : TT} {te : TE} {q : Addr × Obj} (hq : q ∈ X.pn) (hot : L2H.Hot1 X.A q) (hN : X.N.Nodup) (hl : PE X iter tl) (ok : BlkOk X.N X.env.scope scope own)
    (hg : ∀ (s : Shared) (H : Hp) (C : Addr) (cl : List (Str × Addr)) (fp : List Addr), PG (X.blk s H scope (compEnvC scope cl C X.env) fp) tg g) (ht : ∀ (s : Shared) (H : Hp) (C : Addr) (cl : List (Str × Addr)) (fp : List Addr), PTs (X.blk s H scope (compEnvC scope cl C X.env) fp) ifs tt)
    (he : ∀ (s : Shared) (H : Hp) (C : Addr) (cl : List (Str × Addr)) (fp : List Addr), PE (X.blk s H scope (compEnvC scope cl C X.env) fp) elt te) (hs : ∀ x, foldedSetIterable iter X.env x = pure x := by intro _; rfl) :
    PE X (.ListComp elt [⟨tg, iter, ifs, 0⟩] scope pos) (tLc (iList X.K tl) g tt te (own.map fun z => z.2)) := by
  refine ⟨fun pins s σ H Q I h => ?_⟩
  rw [eval_ListComp]
  have hfree : ∀ y ∈ scope.names, y.2 = .free → ∃ c, X.env.cells.lookup y.1 = some c := fun y hy e => by
    rcases ok.free y hy e with k | k
    · exact I.ok.has _ (.inl k)
    · exact I.ok.has _ (.inr k)
  refine wpAny_comprehension_free (use := none) rfl hs (closure_ok hfree) ok.kind (fun y hy e => by rw [ok.uniq y hy, e])
    (thn (hl.run pins s σ H _ I h) fun xv s1 hx => ?_)
  obtain ⟨x, H1, I1, r1, a, ex, ⟨xs, hxs⟩, qq⟩ := hx
  subst ex
  cases r1
  obtain ⟨its, rv, pl, hz⟩ := I1.list hxs
  refine wpAny_pyIter_list pl.isList ?_
  generalize hit : s1.heap.objs.size = it
  generalize hs2 : ({ s1 with heap := s1.heap.push { cls := .type "list_iterator", data := .fields #[.ref a, .int 0 0] } } : Shared) = s2
  have I2 : Inv X pins σ H1 s2 := by rw [← hs2]; exact I1.kept (t' := s1.toks) fun b o e => Heap.get?_push_of_some _ e
  have st2 : s2.heap.IsListIter it a 0 := by rw [← hs2, ← hit]; exact ⟨_, Heap.get?_push_size _ rfl, rfl, rfl⟩
  have f2 : FpOk X pins H1 it := I1.fpOk (Nat.le_of_eq hit) (I1.hok.fresh (Nat.le_of_eq hit))
  refine wpAny_newObj_type (newEnv_comp ?_) (by show 0 ≤ sizeLine; decide)
  generalize hD : s2.heap.objs.size = D
  have hDn : H1 D = none := I2.hok.fresh (Nat.le_of_eq hD)
  obtain ⟨W, ⟨m0, w0⟩, turn⟩ := qq D hDn
  generalize hs3 : ({ s2 with heap := s2.heap.push { cls := .type "list", data := .seq ([] : List Value).toArray } } : Shared) = s3
  have I3 : Inv X pins σ (upd H1 D (.lst [])) s3 := by
    rw [← hs3]
    refine I2.laid (t' := s2.toks) (fun b o e => Heap.get?_push_of_some _ e) (Nat.le_of_eq hD) ⟨Nat.zero_le _, [], 0, .nil, ?_⟩
    rw [← hD]
    exact Heap.get?_push_size _ rfl
  have h3 : s3.heap = s2.heap.push { cls := .type "list", data := .seq ([] : List Value).toArray } := by rw [← hs3]
  have itlt : it < s2.heap.objs.size := let ⟨_, e, _⟩ := st2; Heap.lt_size e
  have f3 : ∀ b ∈ [it], FpOk X pins (upd H1 D (.lst [])) b ∧ b < s3.heap.objs.size := fun b hb => by
    obtain rfl : b = it := by simpa using hb
    refine ⟨⟨?_, f2.2⟩, by rw [h3, Heap.size_push]; exact Nat.lt_succ_of_lt itlt⟩
    rw [upd_ne (by rw [← hD]; exact Nat.ne_of_lt itlt)]
    exact f2.1
  have st3 : s3.heap.IsListIter it a 0 := st2.at fun o e => by rw [h3]; exact Heap.get?_push_of_some _ e
  have I4 := block_start I3 ok hN f3
  have pg := hg s3 (upd H1 D (.lst [])) s3.heap.objs.size (cellsFrom (s3.heap.objs.size + 1) scope.names (cloFrom X.env.cells scope.names [])) [it]
  have pt := ht s3 (upd H1 D (.lst [])) s3.heap.objs.size (cellsFrom (s3.heap.objs.size + 1) scope.names (cloFrom X.env.cells scope.names [])) [it]
  have pe := he s3 (upd H1 D (.lst [])) s3.heap.objs.size (cellsFrom (s3.heap.objs.size + 1) scope.names (cloFrom X.env.cells scope.names [])) [it]
  show codeAny _ _ (.compStart (.ListComp elt [⟨tg, iter, ifs, 0⟩] scope pos) 0 (.ref it) (.ref D) (compEnvC scope (cellsFrom (s3.heap.objs.size + 1) scope.names (cloFrom X.env.cells scope.names [])) s3.heap.objs.size X.env)) (compPost (model X.prog X.w) X.A X.xe none _ (.ref D) s3.heap.objs.size) { s3 with heap := pushCells (s3.heap.push { cls := .type "dict", data := .dict #[] }) scope.names }
  have nit : (upd H1 D (.lst [])) it = none := (f3 it (by simp)).1.1
  -- the exception, pinned
  obtain ⟨qg, qn, qL, qF, qd⟩ := I3.pin q (List.mem_append_left _ hq)
  have qit : q.1 ≠ it := f2.2.2.2.2.2 q (List.mem_append_left _ hq)
  generalize hce : compEnvC scope (cellsFrom (s3.heap.objs.size + 1) scope.names (cloFrom X.env.cells scope.names [])) s3.heap.objs.size X.env = ce at I4 pg pt pe ⊢
  have cL : ce.locals = s3.heap.objs.size := by subst hce; rfl
  generalize hH3 : upd H1 D (.lst []) = H3 at I3 I4 pg pt pe w0 nit f3 qn
  have I4q : Inv (X.blk s3 H3 scope ce [it]) [q] (wipe σ (own.map fun z => z.2)) H3 { s3 with heap := pushCells (s3.heap.push { cls := .type "dict", data := .dict #[] }) scope.names } := I4.pins_of fun p hp => by
    obtain rfl : p = q := by simpa using hp
    refine ⟨pushCells_keeps _ _ _ _ (Heap.get?_push_of_some _ qg), qn, ?_, fun hm => ?_, qd⟩
    · show p.1 ≠ ce.locals
      rw [cL]
      exact Nat.ne_of_lt (Heap.lt_size qg)
    · rcases List.mem_cons.mp (I3.stkSub p.1 hm) with z | z
      · exact qL z
      · exact qF z
  generalize hs4 : ({ s3 with heap := pushCells (s3.heap.push { cls := .type "dict", data := .dict #[] }) scope.names } : Shared) = s4 at I4q ⊢
  have st4 : s4.heap.IsListIter it a 0 := st3.at fun o e => by rw [← hs4]; exact pushCells_keeps _ _ _ _ (Heap.get?_push_of_some _ e)
  have stat : ∀ {σ' : L2.St} {H' : Hp} {s' : Shared}, Inv (X.blk s3 H3 scope ce [it]) [q] σ' H' s' → H' it = none → ∀ b ∈ [it], FpOk (X.blk s3 H3 scope ce [it]) [q] H' b := fun {σ' H' s'} I' hn b hb => by
    refine ⟨by obtain rfl : b = it := by simpa using hb
               exact hn, (I'.ok.exf b hb).1, I'.ok.exfs b hb, .inl hb, fun x c e => (I'.ok.exf b hb).2 x c e, fun p hp => ?_⟩
    obtain rfl : b = it := by simpa using hb
    obtain rfl : p = q := by simpa using (show p ∈ ([] : List (Addr × Obj)) ++ [q] from hp)
    exact qit
  have ob : ∀ {h : Heap} {i : Nat}, h.IsListIter it a i → ∀ b ∈ [it], ∃ o, h.get? b = some o ∧ ∀ v, o.data ≠ .cell v := fun {h i} st b hb => by
    obtain rfl : b = it := by simpa using hb
    obtain ⟨o, e, c, d⟩ := st
    exact ⟨o, e, fun v z => by rw [d] at z; cases z⟩
  have loop : codeAny (model X.prog X.w) X.A (.compLoop (.ListComp elt [⟨tg, iter, ifs, 0⟩] scope pos) 0 (.ref it) (.ref D) ce) (compPost (model X.prog X.w) X.A X.xe none (EP X pins σ Q) (.ref D) s3.heap.objs.size) s4 := by
    refine compLoop_any (fun n s' => ∃ i H', Inv (X.blk s3 H3 scope ce [it]) [q] (wipe σ (own.map fun z => z.2)) H' s' ∧ s'.heap.IsListIter it a i ∧ H' it = none ∧ W i n H') ?_ m0 ⟨0, H3, I4q, st4, nit, w0⟩
    rintro n s5 ⟨i, H5, I5, st5, n5, w5⟩
    obtain ⟨f0, f1, f2', f3', f4, f5⟩ := stat I5 n5 it (by simp)
    rcases turn i n H5 w5 with ⟨stop, qz⟩ | ⟨go, Nx, hNx, step⟩
    · obtain ⟨ys, hys, hlen⟩ := stop
      obtain ⟨its5, rv5, p5, _⟩ := I5.list hys
      have hl5 := rv5.length
      have hotA : HotAt X.A q.1 s5.heap := by
        obtain ⟨hh, vs, d1, c1⟩ := hot
        exact ⟨hh, q.2, vs, (I5.pin q (by simp)).1, d1, c1⟩
      have td : wpAny (model X.prog X.w) X.A (pyNext (.ref it)) (fun r s6 => r = none ∧ Inv (X.blk s3 H3 scope ce [it]) [q] (wipe σ (own.map fun z => z.2)) H5 s6) (fun _ _ => False) s5 :=
        list_end_hot hotA qit st5 p5.isList (by simp; omega) fun h' eb => ⟨rfl, I5.turned (t' := s5.toks) (fun b o hb e => eb b o hb e) f0 f1 f3' f4 f5⟩
      refine thnF td fun r s6 ⟨hr, I6⟩ => ?_
      subst hr
      have I7 : Inv X pins σ H5 s6 := I3.call' (ch := [it]) I6.os I6.base I6.hok I6.bare fun b hb => ⟨(f3 b hb).1.2.2.2.1, (f3 b hb).1.2.1, (f3 b hb).1.2.2.2.2.1, (f3 b hb).1.2.2.2.2.2⟩
      have nC : H5 s3.heap.objs.size = none := by
        have z : H5 ce.locals = none := I6.free
        rw [cL] at z
        exact z
      obtain ⟨m, hn, _⟩ := I6.loc
      have hn : s6.heap.Ns ce.locals m := hn
      rw [cL] at hn
      refine ⟨m, hn, fun h'' sb => ?_⟩
      obtain ⟨g0, g1, g2, g3, g4, g5⟩ := I3.fpOk (H' := H5) (Nat.le_refl _) nC
      exact ⟨.ref D, H5, I7.turned (t' := s6.toks) (fun b o hb e => (sb.2 b hb).trans e) g0 g1 g3 g4 g5, rfl, qz⟩
    · obtain ⟨ys, y0, hys, hy0⟩ := go
      obtain ⟨its5, rv5, p5, _⟩ := I5.list hys
      obtain ⟨u0, hu0, ru0⟩ := rv5.get hy0
      have ti : wpAny (model X.prog X.w) X.A (pyNext (.ref it)) (fun r s1 => ∃ u, r = some u ∧ wpAny (model X.prog X.w) X.A (letOwnedTupleGo tg (.ref it) u) (fun _ s2 => ∃ x H', Inv (X.blk s3 H3 scope ce [it]) [q] (wipe σ (own.map fun z => z.2)) H' s2 ∧ RelV x u ∧ (Itl X.K a).yld i H5 x H' ∧ s2.heap.IsListIter it a (i + 1) ∧ H' it = none) (fun _ _ => False) s1) (fun _ _ => False) s5 := by
        refine wpAny_pyNext_list_item st5 p5.isList (x := u0) (by simpa using hu0) fun h' st' sb => ?_
        have I1 : Inv (X.blk s3 H3 scope ce [it]) [q] (wipe σ (own.map fun z => z.2)) H5 { s5 with heap := h' } := I5.turned (t' := s5.toks) (fun b o hb e => (sb.2 b hb).trans e) f0 f1 f3' f4 f5
        obtain ⟨o, e, c, d⟩ := id st'
        exact ⟨u0, rfl, go_of (s := { s5 with heap := h' }) e c d (by decide) ⟨y0, H5, I1, ru0, ⟨rfl, fun zs hzs => by rw [I5.list_inj hzs hys]; exact hy0⟩, st', n5⟩⟩
      refine thnF ti fun r s6 ⟨u, hr, h6⟩ => ?_
      subst hr
      refine thnF h6 fun _ s7 ⟨x, H7, I7, r7, y7, st7, n7⟩ => ?_
      have I7' := I7.pinned (stat I7 n7) (ob st7)
      refine thnF (pg.run _ s7 _ H7 x u _ I7' r7 (step x H7 y7)) fun _ s8 ⟨σ8, H8, I8, hw8, q8⟩ => ?_
      refine thnF (pt.run _ s8 σ8 H8 _ I8 q8) fun b s9 ⟨H9, I9, q9⟩ => ?_
      have fin : ∀ {s' : Shared} {H' : Hp}, Inv (X.blk s3 H3 scope ce [it]) ([q] ++ pinsAt [it] s7.heap) σ8 H' s' → Nx H' → ∃ m, m < n ∧ ∃ i H', Inv (X.blk s3 H3 scope ce [it]) [q] (wipe σ (own.map fun z => z.2)) H' s' ∧ s'.heap.IsListIter it a i ∧ H' it = none ∧ W i m H' := fun {s' H'} I' nx => by
        obtain ⟨m', hm, w'⟩ := hNx H' nx
        have pin' : ∀ o, s7.heap.get? it = some o → s'.heap.get? it = some o ∧ H' it = none := fun o e =>
          let z := I'.pin (it, o) (List.mem_append_right _ (List.mem_append_right _ (mem_pinsAt (by simp) e)))
          ⟨z.1, z.2.1⟩
        have hl : (wipe σ (own.map fun z => z.2)).length = σ8.length := by rw [← hw8, wipe_length]
        refine ⟨m', hm, i + 1, H', (I'.unpinned (pins := [q])).weak hl (fun j v e => ?_), st7.at fun o e => (pin' o e).1, ?_, w'⟩
        · rw [← hw8] at e
          exact (wipe_some e).1
        · obtain ⟨o, e, _⟩ := st7
          exact (pin' o e).2
      cases b with
      | false =>
        simp only [Bool.false_eq_true, if_false] at q9 ⊢
        exact fin I9 q9
      | true =>
        simp only [if_true] at q9 ⊢
        refine thnF (pe.run _ s9 σ8 H9 _ I9 q9) fun z s10 ⟨yv, H10, I10, r10, acc, hD10, hz10, nx⟩ => ?_
        exact app_ok (X := X.blk s3 H3 scope ce [it]) I10 hD10 hz10 r10 fun s11 I11 => fin I11 nx
  exact codeAny_compStart_list loop (wpAny_pyIter_listiter st4 loop)
theorem ee_lcH {elt tg iter : Expr} {ifs : List Expr} {scope : Scope} {own : List (Str × Nat)} {pos : Pos} {tl : TE} {dl : Dn} {g : TG} {dg : Dg} {js : List Nat} {tt : TT} {bt : Dt} {te : TE} {de : Dn} {q : Addr × Obj} (hq : q ∈ X.pn) (hot : L2H.Hot1 X.A q) (hN : X.N.Nodup) (hl : EE X iter tl dl)
    (ok : blkC X.N X.env.scope scope own = true) (hg : EGb X scope tg g dg js) (ht : ETb X scope ifs tt bt) (he : EEb X scope elt te de) (hj : ∀ k ∈ js, k ∈ own.map (fun z => z.2) := by decide) (hs : ∀ x, foldedSetIterable iter X.env x = pure x := by intro _; rfl) :
    EE X (.ListComp elt [⟨tg, iter, ifs, 0⟩] scope pos) (tLc (iList X.kx tl) g tt te (own.map (fun z => z.2))) (dLc (dItL dl) dg bt de (own.map (fun z => z.2))) :=
  ⟨pe_lcH hq hot hN hl.p (blkOk_by ok) hg.p ht.p he.p hs, sn_lc (si_list hl.s) hg.s hj ht.s he.s⟩
end
end Dl
end
section
set_option Elab.async false
set_option linter.all false
set_option maxRecDepth 100000
set_option maxHeartbeats 4000000
namespace Dl
open PySem PySem.Spec PyProof.Rows L2 StX RZ HotX
/-! defs that raise; a try that catches what a call raises -/
section
variable {X : Cx}
/-- C(), C an own exception class without own __init__ -/
theorem pmk_own0 {C : Addr} {bmB : List Value} {B newId initId : String} {x : Str} {p pos : Pos} (F : ExcBaseFacts B newId initId bmB) (q : PySem.W.excIn X.K C bmB newId = true) (gC : X.mg x = some (.ref C)) (kC : PySem.W.keepIn X.K (.ref C) = true) (r : Raises X (.ref C)) (hg : Gl X x)
    (hdb : (x == ("__debug__" : Str)) = false := by decide) : L2N.PMk X (.Call (.Name x p) [] [] pos) (fun _ H Q => Q (.ref C) none H) := by
  intro pins s σ H Q I h
  refine wpAny_Call_Name_kw (ld_glob I hg gC ?_ hdb)
  refine PySem.W.callWith_K0 I.kIn kC ?_
  show wpAny _ _ (call (.ref C) []) _ _ _
  obtain ⟨bm, N, nm, qn, bs, hdct, sn, sub, ab, col, dd, k0, k1, k2, k3, k5, mN, hC, hN, hni, T⟩ := exc_obj I.kIn q
  refine wpAny_call_exc_subT F T hC hN hni (fun h' e hm => ?_) (by show 0 ≤ sizeLine; exact Nat.zero_le _)
  exact L2N.mk_of I hm r h (I.hok.gone hm.new)
theorem takes0N : L2N.Takes X (fun _ _ _ _ => False) := fun _ _ x => by
  obtain ⟨_, _, _, _, _, _, _, _, _, _, _, _, _, _, _, _, z⟩ := x
  exact z.elim
theorem cm_eqU (hu : X.A.units + 64 < cLine) : CM X .Eq (rEqD X.kx) eqD := ⟨op_eqD hu, s2_eq⟩
end
abbrev Fx := List D → Tau → Option Tau
def spX (K : Kx) (n : Nat) (C : Addr) (fx : Fx) : Sp := fun vs H _ E => vs.length = n ∧ ∃ c I ds s s', RepL K c I vs ds ∧ Sub I H ∧ DW K c s I H ∧ fx ds s = some s' ∧ ∀ I' H', Gr c I H I' H' → DW K c s' I' H' → E (.ref C) none H'
/-- a def that raises: all that is asked of it -/
structure CdX (P : Program) (w : World) (K : PySem.W.Frag) (mg : Str → Option Value) (base : Heap) (k : Nat) (x : Str) (n : Nat) (C : Addr) (fx : Fx) : Prop where
  h : ∃ (f : Addr) (fd : FuncData) (ps : List Str), ps.length = n ∧ FnOk P w K mg base (L2N.CX P w) k f fd ps (spX ⟨K, P, w⟩ n C fx) ∧ mg x = some (.ref f) ∧ PySem.W.keepIn K (.ref f) = true ∧ Binds K fd ps []
def fxIf (m : Nat) (bt : Dt) : Fx := fun ds s => (bt (ds.map Sl.im ++ List.replicate (m - ds.length) .un) s).bind fun p => if p.1 = true then some p.2 else none
section
variable {P : Program} {w : World} {K : PySem.W.Frag} {mg : Str → Option Value} {base : Heap} {x qual : Str} {params : Arguments} {body : List Stmt} {scope : Scope} {f : Addr} {fd : FuncData}
/-- a def that begins: if t: raise C() -/
theorem fnX_ok {N ps : List Str} {k : Nat} {C : Addr} {bmB : List Value} {B newId initId : String} {cx : Str} {cnd : Expr} {p1 p2 rp ip : Pos} {rest : List Stmt} {bt : Dt} (F : FunD K x qual params body scope [] [] f fd) (S : FnScope N ps scope)
    (hbody : body = .If cnd [.Raise (some (.Call (.Name cx p1) [] [] p2)) none rp] [] ip :: rest) (FB : ExcBaseFacts B newId initId bmB) (q : PySem.W.excIn K C bmB newId = true) (gC : mg cx = some (.ref C)) (kC : PySem.W.keepIn K (.ref C) = true)
    (r1 : PySem.W.subIn K (.ref C) (.type "BaseException") = some true) (r2 : PySem.W.typeIn K (.ref C) = some (.type "type")) (hdb : (cx == ("__debug__" : Str)) = false)
    (hb : ∀ (cdv : Value) (A : Around) (outer : List PySem.Env) (s : Shared) (H : Hp) (E : XK), Room k (A.deeper (envOfC qual scope s.heap.objs.size f cdv)) → ∃ tc, ET (cxOf (L2N.CX P w) P w K mg base N qual scope f cdv A outer s H E) cnd tc bt ∧ Gl (cxOf (L2N.CX P w) P w K mg base N qual scope f cdv A outer s H E) cx) :
    FnOk P w K mg base (L2N.CX P w) (k + 1) f fd ps (spX ⟨K, P, w⟩ ps.length C (fxIf N.length bt)) := by
  subst hbody
  refine F.ok S (fun vs H Q E h => h.1) (fun cdv A outer s H vs Q E hr h => ?_)
  obtain ⟨tc, ht, hg⟩ := hb cdv A outer s H E hr
  have tk : L2N.Takes (cxOf (L2N.CX P w) P w K mg base N qual scope f cdv A outer s H E) (fun cls d _ H => E cls d H) := L2N.takes_of rfl rfl rfl rfl
  have pr := L2N.ps_raise (pos := rp) rfl tk (pmk_own0 (p := p1) (pos := p2) FB q gC kC (raises_own r1 r2) hg hdb)
  refine ⟨_, pss_cons (ps_if ht.p (pss_cons pr pss_nil) pss_nil) pss_never, ?_⟩
  obtain ⟨hn, c, I, ds, s0, s1, r, sb, w0, hf, q⟩ := h
  have hl := r.length
  have sl : SlL ⟨K, P, w⟩ c I H (L2.start N vs) (ds.map Sl.im ++ List.replicate (N.length - ds.length) .un) := by
    unfold L2.start
    rw [hl]
    exact slL_start _ r
  have e0 : Ec ⟨K, P, w⟩ c I H (L2.start N vs) (ds.map Sl.im ++ List.replicate (N.length - ds.length) .un) s0 := ⟨sb, w0, sl, fun i j p d e _ _ _ h3 _ => (start_im h3).elim⟩
  obtain ⟨⟨b, s2⟩, h1, h2⟩ := bind_some_of hf
  split at h2
  · rename_i hb1
    have hb1 : b = true := hb1
    cases h2
    subst hb1
    refine ht.s _ _ _ _ _ _ _ _ e0 h1 _ fun I' H' g w' => ?_
    exact q I' H' g w'
  · cases h2
end
/-! try: f(..) except T as n: return e -/
noncomputable def tryEnd (i : Nat) (de : Addr → Dn) (ρ : List Sl) (s1 : Tau) : Option (Rs × Tau) :=
  open Classical in if h : ∃ r : D × Tau, ∀ a, de a (ρ.set i (.im (.fn (.ref a)))) s1 = some r then some (.rt (Classical.choose h).1 false, (Classical.choose h).2) else none
theorem tryEnd_of {i : Nat} {de : Addr → Dn} {ρ : List Sl} {s1 s2 : Tau} {d : D} (h3 : ∀ a, de a (ρ.set i (.im (.fn (.ref a)))) s1 = some (d, s2)) : tryEnd i de ρ s1 = some (.rt d false, s2) := by
  have h : ∃ r : D × Tau, ∀ a, de a (ρ.set i (.im (.fn (.ref a)))) s1 = some r := ⟨(d, s2), h3⟩
  unfold tryEnd
  rw [dif_pos h]
  have e := (Classical.choose_spec h 0).symm.trans (h3 0)
  injection e with e
  rw [e]
theorem tryEnd_some {i : Nat} {de : Addr → Dn} {ρ : List Sl} {s1 : Tau} {o : Rs} {s2 : Tau} (h : tryEnd i de ρ s1 = some (o, s2)) : ∃ d, o = .rt d false ∧ ∀ a, de a (ρ.set i (.im (.fn (.ref a)))) s1 = some (d, s2) := by
  unfold tryEnd at h
  split at h
  · rename_i hh
    have hall := Classical.choose_spec hh
    generalize Classical.choose hh = rr at h hall
    obtain ⟨d, s3⟩ := rr
    cases h
    exact ⟨d, rfl, hall⟩
  · cases h
noncomputable def dTryX (fx : Fx) (ax : Da) (i : Nat) (de : Addr → Dn) : Ds := fun ρ s => (ax ρ s).bind fun p => (fx p.1 p.2).bind fun s1 => tryEnd i de ρ s1
theorem tryX_of {fx : Fx} {ax : Da} {i : Nat} {de : Addr → Dn} {ρ : List Sl} {s s0 s1 s2 : Tau} {xs : List D} {d : D} (h1 : ax ρ s = some (xs, s0)) (h2 : fx xs s0 = some s1) (h3 : ∀ a, de a (ρ.set i (.im (.fn (.ref a)))) s1 = some (d, s2)) : dTryX fx ax i de ρ s = some (.rt d false, s2) := by
  unfold dTryX
  rw [h1]
  show (fx xs s0).bind _ = _
  rw [h2]
  exact tryEnd_of h3
abbrev oe0 (C : Addr) : Obj := { cls := .ref C, dict := none, data := .fields #[.none, .none, .none, .none, .bool false, .none] }
theorem oe0_zn (C : Addr) : L2N.Zn (.ref C) none (oe0 C) := ⟨rfl, rfl, fun vs e => by cases e; rfl⟩
section
variable {X : Cx}
/-- the arguments of the call, and what the suite returns -/
structure TryA (X : Cx) (es : List Expr) (ta : TA) (ax : Da) : Prop where
  p : ∀ (pn : List (Addr × Obj)) (xe : Value → Shared → Prop), PA (X.tr pn xe) es ta
  s : SndA X.kx ta ax
theorem trya_mk {es : List Expr} {ta : List (Addr × Obj) → (Value → Shared → Prop) → TA} {ax : Da} (h : ∀ (pn : List (Addr × Obj)) (xe : Value → Shared → Prop), EA (X.tr pn xe) es (ta pn xe) ax) (hg : ∀ (pn : List (Addr × Obj)) (xe : Value → Shared → Prop), ta pn xe = ta [] (fun _ _ => False) := by intros; rfl) : TryA X es (ta [] (fun _ _ => False)) ax :=
  ⟨fun pn xe => hg pn xe ▸ (h pn xe).p, (h [] fun _ _ => False).s⟩
structure SuiteR (X : Cx) (C : Addr) (r : Expr) (te : Addr → TE) (de : Addr → Dn) : Prop where
  p : ∀ (a : Addr) (oe : Obj) (pn : List (Addr × Obj)), L2N.Zn (.ref C) none oe → (∃ vs, oe.data = .fields vs) → PE (X.suite a ((a, oe) :: pn)) r (te a)
  s : ∀ a, SndE X.kx (te a) (de a)
theorem suite_mk {C : Addr} {r : Expr} {te : Addr → Obj → List (Addr × Obj) → TE} {de : Addr → Dn} (h : ∀ (a : Addr) (oe : Obj) (pn : List (Addr × Obj)), L2N.Zn (.ref C) none oe → (∃ vs, oe.data = .fields vs) → EE (X.suite a ((a, oe) :: pn)) r (te a oe pn) (de a)) (hg : ∀ (a : Addr) (oe : Obj) (pn : List (Addr × Obj)), te a oe pn = te a (oe0 C) [] := by intros; rfl) : SuiteR X C r (fun a => te a (oe0 C) []) de :=
  ⟨fun a oe pn z d => hg a oe pn ▸ (h a oe pn z d).p, fun a => (h a (oe0 C) [] (oe0_zn C) ⟨_, rfl⟩).s⟩
theorem es_tryX {i k j : Nat} {n f cx : Str} {c0 : Value} {C : Addr} {fx : Fx} {e : Expr} {es : List Expr} {ta : TA} {ax : Da} {r : Expr} {te : Addr → TE} {de : Addr → Dn} {p cpos epos np rpos hpos pos : Pos} (hsE : X.stack = X.env :: X.outer) (hf : X.env.frame = some X.env.locals) (hN : X.N.Nodup) (hi : X.N[i]? = some n) (hln : X.env.kindOf n = some .local)
    (hc : Names X cx c0) (h1 : PySem.W.exmOne X.K (.ref C) c0 = some true) {m : Nat} (F : CdX X.prog X.w X.K X.mg X.base k f m C fx) (hr : Room j X.A) (hk : k ≤ j) (hg : Gl X f) (ha : TryA X (e :: es) ta ax) (hl : ∀ ρ s ds s', ax ρ s = some (ds, s') → ds.length = m) (hsu : SuiteR X C r te de)
    (hdb : (f == ("__debug__" : Str)) = false := by decide) (he : ∀ (pn : List (Addr × Obj)) (xe : Value → Shared → Prop), starEach (e :: es) (X.tr pn xe).env = (false, eval e (X.tr pn xe).env) :: starEach es (X.tr pn xe).env := by intros; rfl) (hpl : (backTo cpos (starEach es X.env)).any (fun z => z.1) = false := by rfl)
    (hsw : swapsWith (.Call (.Name f p) (e :: es) [] cpos) none epos.line X.env = pure false := by rfl) :
    ES X (.Try [.Expr (.Call (.Name f p) (e :: es) [] cpos) epos] [.ExceptHandler (some (.Name cx np)) (some n) [.Return (some r) rpos] hpos] [] [] pos)
      (fun D σ H => tSeq (tDrop (tCallS (spX X.kx m C fx) (WE (wAs X.K c0 i (fun a cls d D σ H => (cls = .ref C ∧ d = none) ∧ tRet (te a) D σ H) (fun _ _ _ _ => False) D)) ta)) tNext D σ H) (dTryX fx ax i de) := by
  obtain ⟨f', fd, ps, hn, G, gm, kp, b⟩ := F.h
  refine ⟨?_, ?_⟩
  · refine L2N.ps_try_as (tb := fun W => tSeq (tDrop (tCallS (spX X.kx m C fx) (WE W) ta)) tNext) hsE hf hN hi hln hc takes0N (fun W pn xe tk _ => ?_) (fun a oe cls d pn hz hd => ?_)
    · exact pss_cons (ps_expr (X := X.tr pn xe) (pe_callS (X := X.tr pn xe) G (hr.mono hk) hg gm kp b (fun σ => L2N.passAt tk σ) (ha.p pn xe) hdb (he pn xe) hpl) hsw) pss_nil
    · refine ⟨fun pins s σ H D I h => ?_⟩
      obtain ⟨⟨rfl, rfl⟩, h⟩ := h
      exact (pss_one (ps_ret (hsu.p a oe pn hz hd))).run pins s σ H D I h
  · intro c I0 H0 I H σ ρ s o s' e h D q
    obtain ⟨⟨xs, s0⟩, h2, h⟩ := bind_some_of h
    obtain ⟨s1, h3, h⟩ := bind_some_of h
    obtain ⟨d, rfl, hall⟩ := tryEnd_some h
    refine ha.s _ _ _ _ _ _ _ _ e.env h2 _ fun vs I1 H1 g1 w1 r1 => ?_
    have e1 := e.grow g1 w1
    refine ⟨by rw [r1.length]; exact hl _ _ _ _ h2, c, I1, xs, s0, s1, r1, g1.s2, w1, h3, fun I2 H2 g2 w2 => ?_⟩
    have e2 := e1.grow g2 w2
    refine ⟨true, h1, fun _ a hna => ⟨⟨rfl, rfl⟩, ?_⟩, fun z => nomatch z⟩
    have e3 := e2.setI (v := .ref a) (d := .fn (.ref a)) (.fn _) i
    exact hsu.s a _ _ _ _ _ _ _ _ e3.env (hall a) _ fun v I3 H3 g3 w3 r3 => q v I3 H3 (e3.grow g3 w3).gr w3 r3
end
/-! isinstance(e, C2), e the exception that is handled -/
def dIsE (i : Nat) (b : Bool) (a : Addr) : Dn := fun ρ s => match ρ[i]? with
  | some (.im (.fn (.ref a'))) => if a' = a then some (.bl b, s) else none
  | _ => none
theorem ee_isE {X : Cx} {a C C2 : Addr} {oe : Obj} {pn : List (Addr × Obj)} {i : Nat} {n cx : Str} {b : Bool} {p p2 p3 pos : Pos} (EC : ExcC X.K C) (hz : L2N.Zn (.ref C) none oe) (hf : ∃ vs, oe.data = .fields vs) (hki : PySem.W.kitOne X.K (.ref C) (.ref C2) = some b)
    (hg : Gl X "isinstance") (hm : X.mg "isinstance" = none) (hx : PE (X.suite a ((a, oe) :: pn)) (.Name n p2) (tVar i)) (gC : X.mg cx = some (.ref C2)) (hgc : Gl X cx) (hdb : (cx == ("__debug__" : Str)) = false := by decide)
    (hs1 : starEach [.Name n p2, .Name cx p3] X.env = (false, eval (.Name n p2) X.env) :: starEach [.Name cx p3] X.env := by rfl) (hs2 : starEach [.Name cx p3] X.env = (false, eval (.Name cx p3) X.env) :: starEach [] X.env := by rfl) (hpl : (backTo pos (starEach [.Name cx p3] X.env)).any (fun z => z.1) = false := by rfl) :
    EE (X.suite a ((a, oe) :: pn)) (.Call (.Name "isinstance" p) [.Name n p2, .Name cx p3] [] pos) (tCB (rIsE X.K C a) (tCons (tVar i) (tCons (tC (.ref C2)) tNil))) (dIsE i b a) := by
  refine ⟨pe_callB (X := X.suite a ((a, oe) :: pn)) (call_isE EC hz.zc hf) hg hm (by decide +kernel) (pa_cons hx (pa_cons (pe_glob (X := X.suite a ((a, oe) :: pn)) (v := .ref C2) hgc gC rfl hdb) pa_nil hs2) hs1) (by decide) (by decide) hs1 hpl, ?_⟩
  intro c I H σ ρ s d s' e h Q q
  unfold dIsE at h
  split at h
  · rename_i a' ha
    split at h
    · rename_i hae
      subst hae
      cases h
      obtain ⟨v, hv, sv⟩ := e.sl.get ha
      cases sv with
      | @im v _ rv =>
        cases rv
        refine ⟨_, hv, ?_⟩
        exact ⟨.ref C2, .ref C2, b, rfl, fun u hu => hu, hki, q _ I H (.refl e.sub) e.w (.bl b)⟩
    · cases h
  · cases h

/-! facts of a class, as a test of K -/
def tyBx : Option Value → Bool
  | some (.type n) => n == "type"
  | _ => false
theorem tyBx_ok {x : Option Value} (h : tyBx x = true) : x = some (.type "type") := by
  unfold tyBx at h
  split at h
  · rw [beq_iff_eq.mp h]
  · cases h
def trB : Option Bool → Bool
  | some b => b
  | _ => false
theorem trB_ok {x : Option Bool} (h : trB x = true) : x = some true := by
  unfold trB at h
  split at h
  · rw [h]
  · cases h
def bltB (id : String) : Option (Option Value) → Bool
  | some (some (.builtin i)) => i == id
  | _ => false
theorem bltB_ok {id : String} {x : Option (Option Value)} (h : bltB id x = true) : x = some (some (.builtin id)) := by
  unfold bltB at h
  split at h
  · rw [beq_iff_eq.mp h]
  · cases h
def nonB : Option (Option Value) → Bool
  | some none => true
  | _ => false
theorem nonB_ok {x : Option (Option Value)} (h : nonB x = true) : x = some none := by
  unfold nonB at h
  split at h
  · rfl
  · cases h
def clsB (K : PySem.W.Frag) (C : Addr) : Bool :=
  (PySem.W.excIn K C [.type "ValueError", .type "Exception", .type "BaseException", .type "object"] "ValueError.__new__" && PySem.W.keepIn K (.ref C)) && ((trB (PySem.W.subIn K (.ref C) (.type "BaseException")) && tyBx (PySem.W.typeIn K (.ref C))) &&
  ((bltB "BaseException.__getattribute__" (PySem.W.findIn K (.ref C) "__getattribute__") && nonB (PySem.W.findIn K (.ref C) "__getattr__")) && ((PySem.W.hasDictIn K C && bltB "object.__class__" (PySem.W.findIn K (.ref C) "__class__")) &&
  ((bltB "getset_descriptor.__get__" (PySem.W.specialIn K (.builtin "object.__class__") "__get__") && trB (PySem.W.takesIn K (.builtin "object.__class__"))) && trB (PySem.W.mroIn K C (.type "object"))))))
structure ClsF (K : PySem.W.Frag) (C : Addr) : Prop where
  exc : PySem.W.excIn K C [.type "ValueError", .type "Exception", .type "BaseException", .type "object"] "ValueError.__new__" = true
  kp : PySem.W.keepIn K (.ref C) = true
  sub : PySem.W.subIn K (.ref C) (.type "BaseException") = some true
  ty : PySem.W.typeIn K (.ref C) = some (.type "type")
  ec : ExcC K C
theorem clsB_ok {K : PySem.W.Frag} {C : Addr} (h : clsB K C = true) : ClsF K C := by
  unfold clsB at h
  obtain ⟨h1, h2⟩ := Bool.and_eq_true_iff.mp h
  obtain ⟨a1, a2⟩ := Bool.and_eq_true_iff.mp h1
  obtain ⟨h3, h4⟩ := Bool.and_eq_true_iff.mp h2
  obtain ⟨b1, b2⟩ := Bool.and_eq_true_iff.mp h3
  obtain ⟨h5, h6⟩ := Bool.and_eq_true_iff.mp h4
  obtain ⟨c1, c2⟩ := Bool.and_eq_true_iff.mp h5
  obtain ⟨h7, h8⟩ := Bool.and_eq_true_iff.mp h6
  obtain ⟨d1, d2⟩ := Bool.and_eq_true_iff.mp h7
  obtain ⟨h9, m⟩ := Bool.and_eq_true_iff.mp h8
  obtain ⟨f1, f2⟩ := Bool.and_eq_true_iff.mp h9
  exact ⟨a1, a2, trB_ok b1, tyBx_ok b2, ⟨bltB_ok c1, nonB_ok c2, trB_ok b1, d1, bltB_ok d2, bltB_ok f1, trB_ok f2, trB_ok m⟩⟩
theorem hot1_of {A : Around} {C a : Addr} {oe : Obj} (hz : L2N.Zn (.ref C) none oe) (hf : ∃ vs, oe.data = .fields vs) : L2H.Hot1 (A.mark (some (.ref a))) (a, oe) := by
  obtain ⟨vs, e⟩ := hf
  cases q : vs[2]? with
  | none => exact ⟨rfl, vs, e, hz.2.2 vs e⟩
  | some v => exact ⟨rfl, vs, e, hz.2.2 vs e⟩
end Dl
end
section
set_option Elab.async false
set_option linter.all false
set_option maxRecDepth 100000
set_option maxHeartbeats 4000000
namespace Dl
open PySem PySem.Spec PyProof.Rows L2 StX RZ HotX
/-! tuple * int -/
def mulTD : D → D → Option D
  | d, .int n => d.asT.bind fun xs => if decide (2 ≤ n ∧ n ≤ 1000 ∧ xs.length ≤ 1000 ∧ 0 < xs.length) = true then some (.ktp (List.replicate n.toNat xs).flatten) else none
  | _, _ => none
theorem s2_mulT {K : Kx} : Snd2 K (rRepT K) mulTD := fun c I H x y d e z s rx ry h Q q => by
  unfold mulTD at h
  split at h
  · obtain ⟨xs, h1, h⟩ := bind_some_of h
    split at h
    · rename_i hc
      have hc := of_decide_eq_true hc
      cases h; cases ry
      obtain ⟨a, us, rfl, ha, ra⟩ := rx.asT h1
      have hl := ra.length
      exact ⟨_, _, _, rfl, rfl, s.sqT ha, fun e => by rw [e] at hl; have : 0 = xs.length := hl; omega, hc.1, hc.2.1, by omega, fun p hp => q.ktp s hp (ra.rep _)⟩
    · cases h
  · cases h
theorem ee_mulT {X : Cx} {a b : Expr} {ta tb : TE} {da db : Dn} {pos : Pos} (ha : EE X a ta da) (hb : EE X b tb db) : EE X (.BinOp a .Mult b pos) (tOp (rRepT X.kx) ta tb) (dOp mulTD da db) := ee_op op_repT s2_mulT ha hb
end Dl
end
section
set_option Elab.async false
set_option linter.all false
set_option maxRecDepth 100000
set_option maxHeartbeats 4000000
namespace Dl
open PySem PySem.Spec PyProof.Rows L2 StX
open LamX (CodeO TabB lamEnv lamCx)
/-! lambdas as values: how one is made, how it is called -/
theorem lamO_ok {P : Program} {w : World} {H : Hp} {h : Heap} {a : Addr} {t : LamT} {cl : List (Str × Addr)} {c' : Addr} {dV doc pm ctv : Value}
    (e : h.get? a = some (PySem.W.kdv_obj "<lambda>" lamQ t.params (.expr t.body) t.scope (cloFrom cl t.scope.names []) dV doc pm c' ctv)) : ObjOk P w H h a (LamO a t cl c' dV) :=
  ⟨⟨doc, pm, ctv, e⟩, ⟨_, e⟩, fun h1 h2 ⟨x, y, z, q⟩ k => ⟨x, y, z, k _ q⟩⟩
/-- own names: parameters that are none of the maker's names; what is captured is a cell of the maker -/
structure LamN (N : List Str) (sc scope : Scope) : Prop where
  kind : scope.kind = .function
  co : scope.isCoroutine = false
  gen : scope.isGenerator = false
  own : ∀ y ∈ scope.names, y.2 ≠ .cell ∧ (y.2 = .local → y.1 ∉ N)
  free : ∀ y ∈ scope.names, y.2 = .free → sc.names.lookup y.1 = some .cell ∨ sc.names.lookup y.1 = some .free
def lamNB (N : List Str) (sc scope : Scope) : Bool :=
  (decide (scope.kind = .function) && (!scope.isCoroutine && !scope.isGenerator)) && scope.names.all fun y => (!decide (y.2 = .cell) && (!decide (y.2 = .local) || !N.contains y.1)) && (!decide (y.2 = .free) || (decide (sc.names.lookup y.1 = some .cell) || decide (sc.names.lookup y.1 = some .free)))
theorem lamN_by {N : List Str} {sc scope : Scope} (h : lamNB N sc scope = true) : LamN N sc scope := by
  unfold lamNB at h
  simp only [Bool.and_eq_true, Bool.or_eq_true, Bool.not_eq_true', decide_eq_true_eq, decide_eq_false_iff_not, List.all_eq_true] at h
  obtain ⟨⟨h1, h2, h3⟩, h4⟩ := h
  refine ⟨h1, h2, h3, fun y hy => ⟨(h4 y hy).1.1, fun e hm => ?_⟩, fun y hy e => ?_⟩
  · rcases (h4 y hy).1.2 with z | z
    · exact z e
    · rw [List.contains_iff_mem.mpr hm] at z; cases z
  · rcases (h4 y hy).2 with z | z
    · exact absurd e z
    · exact z
theorem LamN.has {X : Cx} {scope : Scope} (L : LamN X.N X.env.scope scope) (ok : X.Ok) : ∀ y ∈ scope.names, y.2 = .free → ∃ c, X.env.cells.lookup y.1 = some c := fun y hy e => ok.has _ (L.free y hy e)
section
variable {X : Cx} {pins : List (Addr × Obj)} {σ : L2.St} {H HZ : Hp} {s s1 : Shared}
/-- what the making leaves: the code object was told by the table, or is new -/
def Made (P : Addr) (ps : Array Value) (H H2 : Hp) (c' : Addr) : Prop :=
  (H2 = H ∧ ∃ pos, codeAmong pos ps.toList = some (.ref c')) ∨
    (H c' = none ∧ ∃ more : Array Value, H2 = upd (upd H P (.tbl (ps ++ more))) c' (CodeO c' lamQ) ∧ TriplesOk (ps ++ more).toList ∧ ∀ pos cv, codeAmong pos (ps ++ more).toList = some cv → codeAmong pos ps.toList = some cv ∨ cv = .ref c')
theorem lam_tail {P c : Addr} {ps : Array Value} {params : Arguments} {body : Expr} {scope : Scope} {pos : Pos} {fl : Nat} {dV : Value} {Q E : Value → Shared → Prop} (I : Inv X pins σ H s) (TB : TabB X.base X.mg c P) (hcode : X.env.code = .ref c) (hq : X.env.qual ++ "<lambda>" = lamQ)
    (hP : H P = some (.tbl ps)) (ht : TriplesOk ps.toList) (ha : ∀ (pos : Pos) (cv : Value), codeAmong pos ps.toList = some cv → ∃ c, cv = .ref c ∧ H c = some (CodeO c lamQ)) (hfree : ∀ y ∈ scope.names, y.2 = .free → ∃ c, X.env.cells.lookup y.1 = some c)
    (h : ∀ (f c' : Addr) (H2 : Hp) (s' : Shared), Made P ps H H2 c' → H2 f = none → Inv X pins σ (upd H2 f (LamO f ⟨params, body, scope⟩ X.env.cells c' dV)) s' → Q (.ref f) s') :
    wpAny (model X.prog X.w) X.A (makeTail "<lambda>" (X.env.qual ++ "<lambda>") params (.expr body) scope X.env dV .none none pos fl) Q E s := by
  have bP : s.heap.BuiltinsAt X.mg P := TB.bm.keeps I.bk
  have hP' : s.heap.get? P = some { cls := .none, data := .fields ps } := I.hok P _ hP
  rw [hq]
  cases hc : codeAmong pos ps.toList with
  | some cv =>
    obtain ⟨c', rfl, hco⟩ := ha pos cv hc
    refine PySem.W.kdv_makeTailHit (mg := X.mg) (c := c) (P := P) (ps := ps) (closure_ok hfree) I.ok.glob (I.mod.glob.keeps I.bk) hcode (TB.code.keeps I.bk) hP' ht hc bP fun ctv doc h' tk hx hsz => ?_
    have new := Heap.get?_push_size h' (o := PySem.W.kdv_obj "<lambda>" lamQ params (.expr body) scope (cloFrom X.env.cells scope.names []) dV doc ((X.mg "__name__").getD .none) c' ctv) rfl
    exact h _ c' H _ (.inl ⟨rfl, pos, hc⟩) (I.hok.fresh hsz) (I.laid (t' := tk) (fun b o e => Heap.get?_push_of_some _ (hx b o e)) hsz (lamO_ok (t := ⟨params, body, scope⟩) new))
  | none =>
    refine PySem.W.kdv_makeTail (mg := X.mg) (c := c) (P := P) (ps := ps) (closure_ok hfree) I.ok.glob (I.mod.glob.keeps I.bk) hcode (TB.code.keeps I.bk) hP' ht hc TB.gP bP fun c' ctv doc h' tk hx hge hlt hrec htb => ?_
    obtain ⟨c2, oc, vs, t, e2, hoc, hd, hv⟩ := hrec
    cases e2
    have nC : H c' = none := I.hok.fresh hge
    have I1 := LamX.inv_table (t' := tk) (q := lamQ) (more := #[rawInt pos.line, rawInt pos.col, .ref c']) (h' := h') I hP hx htb hge ⟨oc, vs, t, hoc, hd, hv⟩
    have new := Heap.get?_push_size h' (o := PySem.W.kdv_obj "<lambda>" lamQ params (.expr body) scope (cloFrom X.env.cells scope.names []) dV doc ((X.mg "__name__").getD .none) c' ctv) rfl
    have eL : (ps ++ #[rawInt pos.line, rawInt pos.col, .ref c']).toList = ps.toList ++ [rawInt pos.line, rawInt pos.col, .ref c'] := by simp
    refine h _ c' _ _ (.inr ⟨nC, _, rfl, by rw [eL]; exact PySem.TriplesOk_snoc _ _ _ _ ht, fun p' cv hcv => ?_⟩) (I1.hok.fresh (Nat.le_refl _)) (I1.laid (t' := tk) (fun b o e => Heap.get?_push_of_some _ e) (Nat.le_refl _) (lamO_ok (t := ⟨params, body, scope⟩) new))
    rw [eL] at hcv
    exact LamX.among_app _ ht hcv
/-- lambda: .. -/
def tLamV (P : Addr) (t : LamT) (cl : List (Str × Addr)) (dflt : Bool) : TE := fun σ H Q => ∃ ps : Array Value, H P = some (.tbl ps) ∧ TriplesOk ps.toList ∧ (∀ (pos : Pos) (cv : Value), codeAmong pos ps.toList = some cv → ∃ c, cv = .ref c ∧ H c = some (CodeO c lamQ)) ∧
  ∀ (f c' : Addr) (dV : Value) (H1 H2 : Hp), ((dflt = false ∧ dV = .none ∧ H1 = H) ∨ (dflt = true ∧ ∃ T, dV = .ref T ∧ H T = none ∧ H1 = upd H T (.tup [.int 0]))) → Made P ps H1 H2 c' → H2 f = none → Q (.ref f) (upd H2 f (LamO f t cl c' dV))
theorem pe_lamv {P c : Addr} {params : Arguments} {body : Expr} {scope : Scope} {pos : Pos} {cl : List (Str × Addr)} {dflt : Bool} (TB : TabB X.base X.mg c P) (hcode : X.env.code = .ref c) (hq : X.env.qual ++ "<lambda>" = lamQ) (hcl : X.env.cells = cl) (L : LamN X.N X.env.scope scope)
    (hd : (dflt = false ∧ params.defaults = []) ∨ (dflt = true ∧ ∃ j p, params.defaults = [.Constant (.int 0) j p])) (hk0 : params.kw_defaults = []) : PE X (.Lambda params body scope pos) (tLamV P ⟨params, body, scope⟩ cl dflt) := by
  subst hcl
  refine ⟨fun pins s σ H Q I h => ?_⟩
  obtain ⟨ps, hP, ht, ha, h⟩ := h
  rcases hd with ⟨e1, e2⟩ | ⟨e1, j, p, e2⟩
  · refine PySem.W.kla_eval (by rw [defaultsOf_eq, e2, hk0]; rfl) ?_
    rw [makeFunction_eq]
    simp only [List.zip_nil_right, List.filterMap_nil, List.isEmpty_nil, if_true, pure_bind]
    refine lam_tail I TB hcode hq hP ht ha (L.has I.ok) fun f c' H2 s' m n J => ?_
    exact ⟨.ref f, _, J, rfl, h f c' .none H H2 (.inl ⟨e1, rfl, rfl⟩) m n⟩
  · refine PySem.W.kdv_lam (by rw [e2]; rfl) hk0 ?_
    rw [e2]
    refine PySem.W.kdv_all1 (thn ((pe_int (X := X) (i := 0) (j := j) (pos := p)).run pins s σ H (fun v H1 => v = .int 0 ∧ H1 = H) I ⟨rfl, rfl⟩) fun u s1 hu => ?_)
    obtain ⟨v, H1, I1, r1, rfl, rfl⟩ := hu
    refine PySem.W.kdv_all0 ?_
    rw [makeFunction_eq]
    simp only [List.zip_nil_right, List.filterMap_nil, List.isEmpty_nil, List.isEmpty_cons, if_true, pure_bind, Bool.false_eq_true, if_false]
    refine wpAny_bind (wpAny_newTextTuple ?_)
    have hg := Heap.get?_push_size s1.heap (o := { cls := .type "tuple", data := .seq ([u] : List Value).toArray }) rfl
    have nT : H1 s1.heap.objs.size = none := I1.hok.fresh (Nat.le_refl _)
    have I2 := I1.laid (t' := s1.toks) (a := s1.heap.objs.size) (o := .tup [.int 0]) (h' := s1.heap.push { cls := .type "tuple", data := .seq ([u] : List Value).toArray }) (fun b o e => Heap.get?_push_of_some _ e) (Nat.le_refl _) ⟨by show 1 ≤ sizeLine; rw [sizeLine_eq]; omega, [u], .cons r1 .nil, _, hg, rfl, _, rfl⟩
    have keep : ∀ b o, H1 b = some o → upd H1 s1.heap.objs.size (.tup [.int 0]) b = some o := fun b o e => by rw [upd_ne (ne_of_none e nT)]; exact e
    refine lam_tail I2 TB hcode hq (keep _ _ hP) ht (fun p2 cv hc => ?_) (L.has I2.ok) fun f c' H2 s' m n J => ?_
    · obtain ⟨c0, z1, z2⟩ := ha p2 cv hc
      exact ⟨c0, z1, keep _ _ z2⟩
    · exact ⟨.ref f, _, J, rfl, h f c' _ _ H2 (.inr ⟨e1, _, rfl, nT, rfl⟩) m n⟩
end
end Dl
end
section
set_option Elab.async false
set_option linter.all false
set_option maxRecDepth 100000
set_option maxHeartbeats 4000000
namespace Dl
open PySem PySem.Spec PyProof.Rows L2 StX
open LamX (CodeO TabB lamEnv lamCx)
/-- how a lambda's arguments come to be: none, or one that has its default -/
def LamB (t : LamT) : Prop :=
  (t.params.defaults = [] ∧ ∀ (q : Str) (cl : List (Str × Addr)) (doc pm cdv ctv : Value), bindArgs (PySem.W.kdv_fn "<lambda>" q t.params (.expr t.body) t.scope cl .none doc pm cdv ctv) ⟨[], []⟩ = pure []) ∨
  (t.params.defaults ≠ [] ∧ ∃ x : Str, t.scope.names.lookup x = some .local ∧ ∀ (q : Str) (cl : List (Str × Addr)) (T : Addr) (doc pm cdv ctv : Value), ∃ k : Option (Array Value) → Sem (List (Str × Value)),
    bindArgs (PySem.W.kdv_fn "<lambda>" q t.params (.expr t.body) t.scope cl (.ref T) doc pm cdv ctv) ⟨[], []⟩ = (seqItems? (.ref T) >>= k) ∧ ∀ v : Value, k (some #[v]) = pure [(x, v)])
section
variable {X : Cx} {pins : List (Addr × Obj)} {σ : L2.St} {H HZ : Hp} {s s1 : Shared}
theorem lam_begin {A : Around} {outer : List Env} {E : XK} {scope : Scope} {f c' : Addr} {binds : List (Str × Value)} {h₁ : Heap} {tk : Nat} (I : Inv X pins σ H s) (L : LamN X.N X.env.scope scope) (e0 : Env0 X.prog X.w X.K X.mg X.base A outer s1 HZ) (hd : A.handled = none)
    (un : Un (frs X.stack) [] H HZ s.heap s1.heap) (hns : h₁.Ns s1.heap.objs.size fun y => binds.reverse.lookup y) (kp : ∀ b o, s1.heap.get? b = some o → h₁.get? b = some o) :
    Inv (lamCx X A outer s1 HZ E scope f c') [] σ HZ { s1 with heap := h₁, toks := tk } := by
  have hfree := L.has I.ok
  have back : ∀ {y c}, (cloFrom X.env.cells scope.names []).lookup y = some c → X.env.cells.lookup y = some c := fun {y c} e => by
    rcases cloFrom_mem (PySem.mem_of_lookup e) with hm | ⟨h1, h2⟩
    · cases hm
    · obtain ⟨c1, hc⟩ := hfree _ h1 rfl
      have hc : X.env.cells.lookup y = some c1 := hc
      have e2 : c = c1 := by rw [h2, hc] <;> rfl
      rw [e2]
      exact hc
  have there : ∀ {y}, scope.names.lookup y = some .free → ∃ c, (cloFrom X.env.cells scope.names []).lookup y = some c := fun {y} hl =>
    mem_lookup (cloFrom_has (cells := X.env.cells) (acc := []) (show (y, NameKind.free) ∈ scope.names from PySem.mem_of_lookup hl))
  have cellK : ∀ {c : Addr} {v : Option Value}, H c = none → s.heap.IsCell c v → h₁.IsCell c v := fun {c v} n ⟨o, ho, hd⟩ => by
    obtain ⟨sl, q⟩ := un.any ho n (by simp)
    exact ⟨_, kp _ _ q, hd⟩
  have noA : ∀ b : Addr, b ∉ (lamCx X A outer s1 HZ E scope f c').ex := fun b z => nomatch (show b ∈ ([] : List Addr) from z)
  refine ⟨⟨e0.mod, L.kind, rfl, rfl, Nat.le_refl _, fun y z c e1 e2 => I.ok.inj y z c (back e1) (back e2), fun y hy => ?_, fun y c z _ => (Bool.noConfusion (show false = true from z)), fun _ => hd, Around.frames_deeper e0.frames, .inr ⟨rfl, rfl⟩, fun b z => absurd z (noA b), e0.bs, e0.bsz,
      fun b _ _ => noA b, fun b z => absurd z (noA b), e0.funs, e0.frf⟩,
    rfl, e0.bare, Un.kept kp, ⟨_, hns, fun i y v e1 e2 e3 => ?_⟩, fun y c e => ?_, e0.hok.fresh (Nat.le_refl _), fun y c e => ?_, fun q hq => (nomatch (show q ∈ ([] : List (Addr × Obj)) ++ [] from hq)), e0.hok.kept kp, I.len⟩
  · rcases (show scope.names.lookup y = some .cell ∨ scope.names.lookup y = some .free from hy) with hy | hy
    · exact absurd rfl (L.own _ (PySem.mem_of_lookup hy)).1
    · exact there hy
  · rcases (show Vis scope y from e3) with k | k | k
    · exact absurd (List.mem_of_getElem? e1) ((L.own _ (PySem.mem_of_lookup k)).2 rfl)
    · exact absurd rfl (L.own _ (PySem.mem_of_lookup k)).1
    · obtain ⟨m, hn, hl⟩ := I.loc
      have hvis : Vis X.env.scope y := (L.free _ (PySem.mem_of_lookup k) rfl).elim (fun k => .inr (.inl k)) (fun k => .inr (.inr k))
      obtain ⟨w', r, q⟩ := hl i y v e1 e2 hvis
      obtain ⟨c2, h2⟩ := there k
      refine ⟨w', r, .inr ⟨.inr k, c2, h2, ?_⟩⟩
      rcases q with ⟨k', _⟩ | ⟨_, c3, e', z⟩
      · have k' : X.env.scope.names.lookup y = some .local := k'
        rcases L.free _ (PySem.mem_of_lookup k) rfl with k2 | k2 <;> rw [show X.env.scope.names.lookup y = _ from k2] at k' <;> cases k'
      · rw [back h2] at e'
        cases e'
        exact cellK (I.freeC y _ (back h2)) z
  · obtain ⟨w', z⟩ := I.cell y c (back e)
    exact ⟨w', cellK (I.freeC y c (back e)) z⟩
  · obtain ⟨v, o, ho, hd⟩ := I.cell y c (back e)
    exact un.free c o ho (I.freeC y c (back e)) (by simp)
/-- a(), a the name of the lambda in a def that X called (entered at s) -/
theorem pe_clo {CXg : CXT} {Eg : XK} {Ng : List Str} {qg : Str} {sg : Scope} {g f c' : Addr} {cdg dV : Value} {t : LamT} {k i : Nat} {a : Str} {pn : List (Addr × Obj)} {xe : Value → Shared → Prop} {W : WX} {tb : XK → TE} {p1 p2 : Pos}
    (I : Inv X pins σ H s) (L : LamN X.N X.env.scope t.scope) (hq : X.env.qual ++ "<lambda>" = lamQ) (hB : LamB t) (tk : Takes ((cxOf CXg X.prog X.w X.K X.mg X.base Ng qg sg g cdg X.A X.stack s H Eg).tr pn xe) W)
    (hr : Room (k + 1) (X.A.deeper (envOfC qg sg s.heap.objs.size g cdg))) (hbody : ∀ (A : Around) (outer : List Env) (s : Shared) (H : Hp) (E : XK), Room k (A.deeper (lamEnv X t.scope s.heap.objs.size f c')) → PE (lamCx X A outer s H E t.scope f c') t.body (tb E))
    (hN : Ng[i]? = some a) (hv : Vis sg a) (hd : (a == ("__debug__" : Str)) = false := by decide) (hcd : (a == ("__classdict__" : Str)) = false := by decide) :
    PE ((cxOf CXg X.prog X.w X.K X.mg X.base Ng qg sg g cdg X.A X.stack s H Eg).tr pn xe) (.Call (.Name a p1) [] [] p2)
      (fun σZ HZ Q => σZ[i]? = some (some (.ref f)) ∧ HZ f = some (LamO f t X.env.cells c' dV) ∧ HZ c' = some (CodeO c' lamQ) ∧ ((t.params.defaults = [] ∧ dV = .none) ∨ (t.params.defaults ≠ [] ∧ ∃ T, dV = .ref T ∧ HZ T = some (.tup [.int 0]))) ∧ tb (WE W σZ) σ HZ Q) := by
  refine ⟨fun pinsZ sZ σZ HZ Q IZ h => ?_⟩
  obtain ⟨hs, hf, hc, hD, ht⟩ := h
  refine wpAny_Call_Name_kw (thn ((pe_var (pos := p1) (i := i) hN hv hd hcd).run pinsZ sZ σZ HZ (fun v H1 => v = .ref f ∧ H1 = HZ) IZ ⟨.ref f, hs, rfl, rfl⟩) fun u s1 hu => ?_)
  obtain ⟨v, H1, I1, r1, rfl, rfl⟩ := hu
  obtain rfl : u = Value.ref f := r1
  have hf1 : ObjOk X.prog X.w H1 s1.heap f (.ext fun h => ∃ doc pm ctv : Value, h.get? f = some (PySem.W.kdv_obj "<lambda>" lamQ t.params (.expr t.body) t.scope (cloFrom X.env.cells t.scope.names []) dV doc pm c' ctv)) := I1.hok f _ hf
  obtain ⟨⟨doc, pm, ctv, of1⟩, _, _⟩ := hf1
  refine PySem.W.callWith_F0 ⟨_, _, _, _, of1⟩ ?_
  have un : Un (frs X.stack) [] H H1 s.heap s1.heap := I1.base
  have hc1 : ObjOk X.prog X.w H1 s1.heap c' (.ext fun h => ∃ (oc : Obj) (vs : Array Value) (t : Tok), h.get? c' = some oc ∧ oc.data = .fields vs ∧ vs[1]? = some (.str lamQ t)) := I1.hok c' _ hc
  obtain ⟨⟨oc, vs, tq, hoc, hdc, hvc⟩, _, _⟩ := hc1
  -- behind the binding
  have go : ∀ (binds : List (Str × Value)), (∀ y ∈ binds, t.scope.names.lookup y.1 = some .local) → BindsTo s1 (PySem.W.kdv_fn "<lambda>" lamQ t.params (.expr t.body) t.scope (cloFrom X.env.cells t.scope.names []) dV doc pm (.ref c') ctv) ⟨[], []⟩ binds →
      codeAny (model X.prog X.w) (X.A.deeper (envOfC qg sg s.heap.objs.size g cdg)) (.call (.ref f) ⟨[], []⟩) (CR (L2.CX X.prog X.w) (envOfC qg sg s.heap.objs.size g cdg :: X.stack) X.prog X.w H1 s1 Q (WE W σZ)) s1 := fun binds hl hb => by
    refine PySem.W.kla_callFunE hr.depth of1 rfl L.co L.gen rfl ⟨c', oc, vs, tq, rfl, hoc, hdc, hvc⟩ (hb _ _ _ _ ?_)
    refine wpAny_newFunctionEnv (fun y hy => (L.own y hy).1) hl (fun h₁ hns hsb => ⟨I1.nolimit.fresh _ hsb, ?_⟩) L.kind
    have e1 : (newEnv t.scope s1.heap.objs.size mainGlobals (cloFrom X.env.cells t.scope.names []) (lamQ ++ ".<locals>.") (some f) (.ref c') none builtinsNs) = lamEnv X t.scope s1.heap.objs.size f c' := by
      rw [← hq]; rfl
    have kp : ∀ b o, s1.heap.get? b = some o → h₁.get? b = some o := fun b o e => hsb.extBut b o (Nat.ne_of_lt (Heap.lt_size e)) (Heap.get?_push_of_some _ e)
    have J : Inv (lamCx X (X.A.deeper (envOfC qg sg s.heap.objs.size g cdg)) (envOfC qg sg s.heap.objs.size g cdg :: X.stack) s1 H1 (WE W σZ) t.scope f c') [] σ H1 { s1 with heap := h₁, toks := s1.toks + binds.length } :=
      lam_begin I L I1.env0 hr.hd un hns kp
    show codeAny _ _ (.expr t.body (newEnv t.scope s1.heap.objs.size mainGlobals (cloFrom X.env.cells t.scope.names []) (lamQ ++ ".<locals>.") (some f) (.ref c') none builtinsNs)) _ _
    rw [e1]
    refine PySem.W.kla_codeExpr (wpAny_mono ((hbody _ _ s1 H1 (WE W σZ) (hr.deeper _)).run [] _ _ H1 Q J ht) (fun v s' hq => ?_) fun e s' hq => hq)
    obtain ⟨w', H', J', rv, q⟩ := hq
    exact ⟨w', H', J'.os, J'.bare, J'.base, J'.hok, rv, q⟩
  have rc : codeAny (model X.prog X.w) (X.A.deeper (envOfC qg sg s.heap.objs.size g cdg)) (.call (.ref f) ⟨[], []⟩) (CR (L2.CX X.prog X.w) (envOfC qg sg s.heap.objs.size g cdg :: X.stack) X.prog X.w H1 s1 Q (WE W σZ)) s1 := by
    rcases hB with ⟨d0, hb⟩ | ⟨d0, x, hx, hb⟩
    · rcases hD with ⟨_, rfl⟩ | ⟨d1, _⟩
      · exact go [] (fun y hy => nomatch hy) (.of_eq (hb _ _ _ _ _ _))
      · exact absurd d0 d1
    · rcases hD with ⟨d1, _⟩ | ⟨_, T, rfl, hT⟩
      · exact absurd d1 d0
      · obtain ⟨k, hk1, hk2⟩ := hb lamQ (cloFrom X.env.cells t.scope.names []) T doc pm (.ref c') ctv
        obtain ⟨_, its, rv, oT, hoT, hdT⟩ := I1.hok T _ hT
        cases rv with
        | @cons _ u0 _ us r0 rr =>
          cases rr
          obtain ⟨cT, n, hdT⟩ := hdT
          exact go [(x, u0)] (fun y hy => by obtain rfl : y = (x, u0) := by simpa using hy
                                             exact hx) (.of_defaults rfl hoT hdT hk1 (hk2 u0))
  refine wpAny_call (codeAny_mono rc fun r s' hq => ?_)
  cases r with
  | error e => exact L2.passAt tk σZ pinsZ H1 s1 e s' I1 hq
  | ok fl =>
    cases fl with
    | ret u => exact I1.after hq
    | next => exact False.elim hq
    | brk => exact False.elim hq
    | cont => exact False.elim hq
end
end Dl
end
section
set_option Elab.async false
set_option linter.all false
set_option maxRecDepth 100000
set_option maxHeartbeats 4000000
namespace Dl
open PySem PySem.Spec PyProof.Rows L2 StX RZ HotX
/-! code that may raise, over data -/
structure Exn where
  nm : Str
  ix : Option D
/-- an error in the air: its class by its name at the top, its index where it has one -/
def ExR (K : Kx) (c : Option Addr) (I : Hp) (x : Exn) (cls : Value) (d : Option Addr) : Prop :=
  cls = .ref (He.ga K.f x.nm) ∧ ((x.ix = none ∧ d = none) ∨ ∃ e dd v, x.ix = some e ∧ d = some dd ∧ I dd = some (.xd [("index", v)]) ∧ Rep K c I v e)
theorem ExR.mono {K : Kx} {c : Option Addr} {I J : Hp} {x : Exn} {cls : Value} {d : Option Addr} (h : ExR K c I x cls d) (s : Sb I J) : ExR K c J x cls d :=
  ⟨h.1, h.2.imp id fun ⟨e, dd, v, a, b, q, r⟩ => ⟨e, dd, v, a, b, s _ _ q, r.mono s⟩⟩
inductive Rx where
  | ok (r : Rs) | xc (x : Exn) (ρ : List Sl)
abbrev Dxs := List Sl → Tau → Option (Rx × Tau)
def FinX (K : Kx) (W : WX) (c : Option Addr) (I0 H0 : Hp) (s : Tau) (D : Ends) : Rx → Prop
  | .ok r => Fin K c I0 H0 s D r
  | .xc x ρ => ∀ σ I H cls d, EnvS K c I0 H0 I H σ ρ s → ExR K c I x cls d → W cls d σ H
def SndX (K : Kx) (W : WX) (ts : TS) (dx : Dxs) : Prop := ∀ c I0 H0 I H σ ρ s o s', EnvS K c I0 H0 I H σ ρ s → dx ρ s = some (o, s') → ∀ D : Ends, FinX K W c I0 H0 s' D o → ts D σ H
structure EX (X : Cx) (W : WX) (st : Stmt) (ts : TS) (dx : Dxs) : Prop where
  p : PS X st ts
  s : SndX X.kx W ts dx
structure EXs (X : Cx) (W : WX) (st : List Stmt) (ts : TS) (dx : Dxs) : Prop where
  p : PSs X st ts
  s : SndX X.kx W ts dx
/-- an expression that may raise: a call -/
abbrev Dxe := List Sl → Tau → Option ((D ⊕ Exn) × Tau)
def EndE (K : Kx) (W : WX) (c : Option Addr) (I H : Hp) (σ : L2.St) (s' : Tau) (Q : VK) : D ⊕ Exn → Prop
  | .inl d => ∀ v I' H', Gr c I H I' H' → DW K c s' I' H' → Rep K c I' v d → Q v H'
  | .inr x => ∀ I' H' cls d, Gr c I H I' H' → DW K c s' I' H' → ExR K c I' x cls d → W cls d σ H'
def SndXE (K : Kx) (W : WX) (te : TE) (dx : Dxe) : Prop := ∀ c I H σ ρ s r s', Ec K c I H σ ρ s → dx ρ s = some (r, s') → ∀ Q : VK, EndE K W c I H σ s' Q r → te σ H Q
structure EXe (X : Cx) (W : WX) (e : Expr) (te : TE) (dx : Dxe) : Prop where
  p : PE X e te
  s : SndXE X.kx W te dx
def dxLift (dn : Ds) : Dxs := fun ρ s => (dn ρ s).map fun p => (.ok p.1, p.2)
def dxNext : Dxs := fun ρ s => some (.ok (.nx ρ), s)
def dxSeq (a b : Dxs) : Dxs := fun ρ s => (a ρ s).bind fun p => match p.1 with
  | .ok (.nx ρ') => b ρ' p.2
  | o => some (o, p.2)
def dxIf (t : Dt) (a b : Dxs) : Dxs := fun ρ s => (t ρ s).bind fun p => if p.1 = true then a ρ p.2 else b ρ p.2
def dxLoop (g : Dg) (b : Dxs) : List D → Dxs
  | [] => fun ρ s => some (.ok (.nx ρ), s)
  | x :: xs => fun ρ s => (g x ρ).bind fun ρ1 => (b ρ1 s).bind fun p => match p.1 with
    | .ok (.nx ρ2) => dxLoop g b xs ρ2 p.2
    | .ok (.ct ρ2) => dxLoop g b xs ρ2 p.2
    | .ok (.bk ρ2) => some (.ok (.nx ρ2), p.2)
    | .ok (.rt d o) => some (.ok (.rt d o), p.2)
    | .xc x ρ2 => some (.xc x ρ2, p.2)
def dxFor (it : Da) (g : Dg) (b : Dxs) : Dxs := fun ρ s => (it ρ s).bind fun p => dxLoop g b p.1 ρ p.2
def dxRaise (nm : Str) : Dxs := fun ρ s => some (.xc ⟨nm, none⟩ ρ, s)
def dxExpr (a : Dxe) : Dxs := fun ρ s => (a ρ s).map fun p => match p.1 with
  | .inl _ => (.ok (.nx ρ), p.2)
  | .inr x => (.xc x ρ, p.2)
def dxSet (i : Nat) (a : Dxe) : Dxs := fun ρ s => (a ρ s).map fun p => match p.1 with
  | .inl d => (.ok (.nx (ρ.set i (.im d))), p.2)
  | .inr x => (.xc x ρ, p.2)
def dxRet (a : Dxe) : Dxs := fun ρ s => (a ρ s).map fun p => match p.1 with
  | .inl d => (.ok (.rt d false), p.2)
  | .inr x => (.xc x ρ, p.2)
section
variable {K : Kx} {W : WX} {t u : TS} {a b : Dxs} {te : TE} {ea : Dxe} {tt : TT} {bt : Dt} {dn : Ds} {g : TG} {dg : Dg} {js : List Nat} {wi : TI} {di : Da}
theorem sx_lift (h1 : SndS K t dn) : SndX K W t (dxLift dn) := fun c I0 H0 I H σ ρ s o s' e h D q => by
  obtain ⟨⟨r, s1⟩, ha, h⟩ := map_some_of h
  cases h
  exact h1 _ _ _ _ _ _ _ _ _ _ e ha D q
theorem sx_next : SndX K W tNext dxNext := fun c I0 H0 I H σ ρ s o s' e h D q => by
  cases h
  exact q σ I H e
theorem sx_seq (h1 : SndX K W t a) (h2 : SndX K W u b) : SndX K W (tSeq t u) (dxSeq a b) := fun c I0 H0 I H σ ρ s o s' e h D q => by
  obtain ⟨⟨x, s1⟩, ha, h⟩ := bind_some_of h
  refine h1 _ _ _ _ _ _ _ _ _ _ e ha _ ?_
  cases x with
  | xc x ρ' => cases h; exact q
  | ok r =>
    cases r with
    | nx ρ' => exact fun σ' I' H' e' => h2 _ _ _ _ _ _ _ _ _ _ e' h D q
    | rt d k => cases h; cases k <;> exact q
    | bk ρ' => cases h; exact q
    | ct ρ' => cases h; exact q
theorem sx_if (ht : SndT K tt bt) (h1 : SndX K W t a) (h2 : SndX K W u b) : SndX K W (tIfS tt t u) (dxIf bt a b) := fun c I0 H0 I H σ ρ s o s' e h D q => by
  obtain ⟨⟨x, s1⟩, ha, h⟩ := bind_some_of h
  refine ht _ _ _ _ _ _ _ _ e.env ha _ fun I1 H1 g1 w1 => ?_
  cases x with
  | true => exact h1 _ _ _ _ _ _ _ _ _ _ (e.grow g1 w1) h D q
  | false => exact h2 _ _ _ _ _ _ _ _ _ _ (e.grow g1 w1) h D q
theorem sx_raise {nm : Str} : SndX K W (fun _ σ H => W (.ref (He.ga K.f nm)) none σ H) (dxRaise nm) := fun c I0 H0 I H σ ρ s o s' e h D q => by
  cases h
  exact q σ I H _ _ e ⟨rfl, .inl ⟨rfl, rfl⟩⟩
theorem sx_expr (h1 : SndXE K W te ea) : SndX K W (tDrop te) (dxExpr ea) := fun c I0 H0 I H σ ρ s o s' e h D q => by
  obtain ⟨⟨r, s1⟩, ha, h⟩ := map_some_of h
  cases r with
  | inl d => cases h; exact h1 _ _ _ _ _ _ _ _ e.env ha _ fun v I1 H1 g1 w1 r1 => q σ I1 H1 (e.grow g1 w1)
  | inr x => cases h; exact h1 _ _ _ _ _ _ _ _ e.env ha _ fun I1 H1 cls d g1 w1 r1 => q σ I1 H1 cls d (e.grow g1 w1) r1
theorem sx_ret (h1 : SndXE K W te ea) : SndX K W (tRet te) (dxRet ea) := fun c I0 H0 I H σ ρ s o s' e h D q => by
  obtain ⟨⟨r, s1⟩, ha, h⟩ := map_some_of h
  cases r with
  | inl d => cases h; exact h1 _ _ _ _ _ _ _ _ e.env ha _ fun v I1 H1 g1 w1 r1 => q v I1 H1 (e.grow g1 w1).gr w1 r1
  | inr x => cases h; exact h1 _ _ _ _ _ _ _ _ e.env ha _ fun I1 H1 cls d g1 w1 r1 => q σ I1 H1 cls d (e.grow g1 w1) r1
theorem sx_set (i : Nat) (h1 : SndXE K W te ea) : SndX K W (tAsg te (gName i)) (dxSet i ea) := fun c I0 H0 I H σ ρ s o s' e h D q => by
  obtain ⟨⟨r, s1⟩, ha, h⟩ := map_some_of h
  cases r with
  | inl d => cases h; exact h1 _ _ _ _ _ _ _ _ e.env ha _ fun v I1 H1 g1 w1 r1 => q _ I1 H1 ((e.grow g1 w1).setI r1 i)
  | inr x => cases h; exact h1 _ _ _ _ _ _ _ _ e.env ha _ fun I1 H1 cls d g1 w1 r1 => q σ I1 H1 cls d (e.grow g1 w1) r1
theorem sx_for (hi : SndI K wi di) (hg : SndG K g dg js) (hb : SndX K W t b) : SndX K W (tFor wi g t) (dxFor di dg b) := fun c I0 H0 I H σ ρ s o s' e h D q => by
  obtain ⟨⟨xs, s1⟩, ha, h⟩ := bind_some_of h
  refine hi _ _ _ _ _ _ _ _ e.env ha _ fun J I1 H1 g1 w1 yl => ?_
  refine ⟨fun i m σ' H' => m = xs.length - i ∧ i ≤ xs.length ∧ ∃ I' ρ' s2, EnvS K c I0 H0 I' H' σ' ρ' s2 ∧ Sb I1 I' ∧ dxLoop dg b (xs.drop i) ρ' s2 = some (o, s'),
    ⟨xs.length, by simp, Nat.zero_le _, I1, ρ, s1, e.grow g1 w1, .refl _, by simpa using h⟩, ?_⟩
  rintro i m σ' H' ⟨rfl, hle, I', ρ', s2, e', sb, hl⟩
  obtain ⟨y1, y2⟩ := yl I' H' sb e'.env.sub
  by_cases hlt : i < xs.length
  · obtain ⟨go, yld⟩ := y1 i xs[i] (List.getElem?_eq_getElem hlt)
    rw [List.drop_eq_getElem_cons hlt] at hl
    obtain ⟨ρ1, hx, hl⟩ := bind_some_of hl
    obtain ⟨⟨r, s3⟩, hbd, hl⟩ := bind_some_of hl
    refine .inr ⟨go, fun σ2 H2 => ∃ I2 ρ2 s4, EnvS K c I0 H0 I2 H2 σ2 ρ2 s4 ∧ Sb I1 I2 ∧ dxLoop dg b (xs.drop (i + 1)) ρ2 s4 = some (o, s'), fun σ2 H2 ⟨I2, ρ2, s4, z1, z2, z3⟩ => ⟨xs.length - (i + 1), by omega, rfl, hlt, I2, ρ2, s4, z1, z2, z3⟩, fun x H3 hy => ?_⟩
    obtain ⟨I3, g3, r3⟩ := yld x H3 hy
    have w3 := e'.env.w.gr g3
    have e3 := e'.grow g3.up w3
    refine hg _ _ _ _ _ _ _ _ _ e3.env r3 hx _ fun σ4 e4 _ _ u4 => ?_
    have e5 : EnvS K c I0 H0 I3 H3 σ4 ρ1 s2 := ⟨e4, e3.s0, e3.kp, e3.nw, fun j p d a b => by
      obtain ⟨a, b⟩ := u4 j p d a b
      exact e3.fr j p d a b, e3.nc⟩
    have e1 := e.grow g1 w1
    refine hb _ _ _ _ _ _ _ _ _ _ (e5.reb e1.s0 (sb.trans g3.s1)) hbd _ ?_
    cases r with
    | xc x ρ2 => cases hl; exact fun σ6 I6 H6 cls d e6 r6 => q σ6 I6 H6 cls d (e6.back e1.s0 e1.nw) r6
    | ok r =>
      cases r with
      | nx ρ2 => exact fun σ6 I6 H6 e6 => ⟨I6, ρ2, s3, e6.back e1.s0 e1.nw, e6.s0, hl⟩
      | ct ρ2 => exact fun σ6 I6 H6 e6 => ⟨I6, ρ2, s3, e6.back e1.s0 e1.nw, e6.s0, hl⟩
      | bk ρ2 => cases hl; exact fun σ6 I6 H6 e6 => q σ6 I6 H6 (e6.back e1.s0 e1.nw)
      | rt d k =>
        cases hl
        cases k with
        | false => exact fun v I6 H6 g6 w6 r6 => q v I6 H6 (g6.back e1.s0 e1.nw) w6 r6
        | true => exact fun v I6 H6 g6 w6 r6 => q v I6 H6 (g6.back e1.s0 e1.nw) w6 r6
  · have ei : i = xs.length := by omega
    subst ei
    rw [List.drop_length] at hl
    cases hl
    exact .inl ⟨y2, q _ _ _ e'⟩
end
/-! functions that may raise -/
abbrev Fnx := List D → Tau → Option (((D × Bool) ⊕ Exn) × Tau)
def EndF (K : Kx) (c : Option Addr) (I H : Hp) (s' : Tau) (Q : VK) (E : XK) : (D × Bool) ⊕ Exn → Prop
  | .inl (d, o) => ∀ v I' H', Gr c I H I' H' → DW K c s' I' H' → ResOk K c I' H' H v d o → Q v H'
  | .inr x => ∀ I' H' cls d, Gr c I H I' H' → DW K c s' I' H' → ExR K c I' x cls d → E cls d H'
def spR (K : Kx) (n : Nat) (f : Fnx) : Sp := fun vs H Q E => vs.length = n ∧ ∃ c I ds s r s', RepL K c I vs ds ∧ Sub I H ∧ DW K c s I H ∧ f ds s = some (r, s') ∧ EndF K c I H s' Q E r
def dxFn (m : Nat) (dx : Dxs) : Fnx := fun ds s => (dx (ds.map Sl.im ++ List.replicate (m - ds.length) .un) s).bind fun p => match p.1 with
  | .ok (.rt d o) => some (.inl (d, o), p.2)
  | .ok (.nx _) => some (.inl (.non, false), p.2)
  | .xc x _ => some (.inr x, p.2)
  | _ => none
/-- a def that may raise: all that is asked of it -/
structure Cr (CX : CXT) (P : Program) (w : World) (K : PySem.W.Frag) (mg : Str → Option Value) (base : Heap) (k : Nat) (x : Str) (n : Nat) (fn : Fnx) : Prop where
  h : ∃ (f : Addr) (fd : FuncData) (ps : List Str), ps.length = n ∧ FnOk P w K mg base CX k f fd ps (spR ⟨K, P, w⟩ n fn) ∧ mg x = some (.ref f) ∧ PySem.W.keepIn K (.ref f) = true ∧ Binds K fd ps []
section
variable {P : Program} {w : World} {K : PySem.W.Frag} {mg : Str → Option Value} {base : Heap} {x qual : Str} {params : Arguments} {body : List Stmt} {scope : Scope} {f : Addr} {fd : FuncData}
/-- THE RULE for a def that may raise -/
theorem fnR_ok {CX : CXT} {N ps : List Str} {k : Nat} {dx : Dxs} (F : FunD K x qual params body scope [] [] f fd) (S : FnScope N ps scope)
    (hb : ∀ (cdv : Value) (A : Around) (outer : List PySem.Env) (s : Shared) (H : Hp) (E : XK), Room k (A.deeper (envOfC qual scope s.heap.objs.size f cdv)) → ∃ t, EXs (cxOf CX P w K mg base N qual scope f cdv A outer s H E) (fun cls d _ H => E cls d H) body t dx) :
    FnOk P w K mg base CX (k + 1) f fd ps (spR ⟨K, P, w⟩ ps.length (dxFn N.length dx)) := by
  refine F.ok S (fun vs H Q E h => h.1) (fun cdv A outer s H vs Q E hr h => ?_)
  obtain ⟨t, ht⟩ := hb cdv A outer s H E hr
  refine ⟨t, ht.p, ?_⟩
  obtain ⟨hn, c, I, ds, s0, r0, s1, r, sb, w0, hf, q⟩ := h
  obtain ⟨⟨out, s2⟩, h1, h2⟩ := bind_some_of hf
  have hl := r.length
  have e0 : EnvS ⟨K, P, w⟩ c I H I H (L2.start N vs) (ds.map Sl.im ++ List.replicate (N.length - ds.length) .un) s0 := by
    have sl : SlL ⟨K, P, w⟩ c I H (L2.start N vs) (ds.map Sl.im ++ List.replicate (N.length - ds.length) .un) := by
      unfold L2.start
      rw [hl]
      exact slL_start _ r
    exact ⟨⟨sb, w0, sl, fun i j p d e _ _ _ h3 _ => (start_im h3).elim⟩, .refl _, .refl _ _, fun a z => .inl z, fun i p d _ h => (start_im h).elim, fun r hr z => by
      obtain ⟨_, sc, z2, _⟩ := w0 r hr
      rw [z] at z2; cases z2⟩
  refine ht.s _ _ _ _ _ _ _ _ _ _ e0 h1 _ ?_
  cases out with
  | xc x ρ' =>
    have h3 : r0 = .inr x ∧ s2 = s1 := by cases h2; exact ⟨rfl, rfl⟩
    obtain ⟨rfl, rfl⟩ := h3
    exact fun σ' I' H' cls d e' r' => q I' H' cls d e'.gr e'.env.w r'
  | ok out =>
    cases out with
    | nx ρ' =>
      have h3 : r0 = .inl (.non, false) ∧ s2 = s1 := by cases h2; exact ⟨rfl, rfl⟩
      obtain ⟨rfl, rfl⟩ := h3
      exact fun σ' I' H' e' => q .non I' H' e'.gr e'.env.w .non
    | rt d' k' =>
      have h3 : r0 = .inl (d', k') ∧ s2 = s1 := by cases h2; exact ⟨rfl, rfl⟩
      obtain ⟨rfl, rfl⟩ := h3
      cases k' with
      | false => exact fun v I' H' g w r => q v I' H' g w r
      | true => exact fun p I' H' g w r hp => q _ I' H' g w ⟨p, rfl, r, hp⟩
    | bk ρ' => cases h2
    | ct ρ' => cases h2
end
def dCallR (f : Fnx) (ax : Da) : Dxe := fun ρ s => (ax ρ s).bind fun p => (f p.1 p.2).map fun r => match r.1 with
  | .inl d => (.inl d.1, r.2)
  | .inr x => (.inr x, r.2)
/-- where it answers -/
def dCallA (f : Fnx) (ax : Da) : Dn := fun ρ s => (dCallR f ax ρ s).bind fun r => match r.1 with
  | .inl d => some (d, r.2)
  | .inr _ => none
theorem sxe_call {K : Kx} {W : WX} {n : Nat} {f : Fnx} {tx : TA} {ax : Da} (hx : SndA K tx ax) (hl : ∀ ρ s ds s', ax ρ s = some (ds, s') → ds.length = n) : SndXE K W (tCallS (spR K n f) (WE W) tx) (dCallR f ax) := fun c I H σ ρ s r s' e h Q q => by
  obtain ⟨⟨ds, s1⟩, h1, h⟩ := bind_some_of h
  obtain ⟨⟨r2, s2⟩, h2, h⟩ := map_some_of h
  refine hx _ _ _ _ _ _ _ _ e h1 _ fun vs I1 H1 g1 w1 r1 => ?_
  refine ⟨r1.length.trans (hl _ _ _ _ h1), c, I1, ds, s1, r2, s2, r1, g1.s2, w1, h2, ?_⟩
  cases r2 with
  | inr x =>
    cases h
    exact fun I' H' cls d g w r => q I' H' cls d (g1.tr w1 g) w r
  | inl p =>
    obtain ⟨d1, o⟩ := p
    cases h
    intro v I' H' g w r
    cases o with
    | false => exact q v I' H' (g1.tr w1 g) w r
    | true =>
      obtain ⟨p, rfl, hp, hn⟩ := r
      obtain ⟨u, hI, hc, hH, hs, sb, rp⟩ := hp.freeze g.s2
      refine q _ (upd I' p u) H' (g1.tr w1 ⟨g.s1.trans sb, hs, g.kp, fun a z => ?_⟩) (w.more hc hI) rp
      by_cases n : a = p
      · subst n; exact .inr hn
      · rw [upd_ne n] at z; exact g.nw a z
theorem sn_callA {K : Kx} {n : Nat} {f : Fnx} {tx : TA} {ax : Da} (hx : SndA K tx ax) (hl : ∀ ρ s ds s', ax ρ s = some (ds, s') → ds.length = n) : SndE K (tCall (spR K n f) [] E0 tx) (dCallA f ax) := fun c I H σ ρ s d s' e h Q q => by
  obtain ⟨⟨r, s1⟩, h1, h⟩ := bind_some_of h
  cases r with
  | inr x => cases h
  | inl d1 =>
    cases h
    have k := sxe_call (W := fun _ _ _ _ => False) hx hl c I H σ ρ s _ _ e h1 Q q
    obtain ⟨⟨ds, s0⟩, h2, _⟩ := bind_some_of h1
    refine hx _ _ _ _ _ _ _ _ e h2 _ fun vs I1 H1 g1 w1 r1 => ?_
    obtain ⟨⟨ds', s0'⟩, h2', h3⟩ := bind_some_of h1
    rw [h2] at h2'
    cases h2'
    obtain ⟨⟨r2, s2⟩, h4, h5⟩ := map_some_of h3
    show spR K n f (vs ++ []) H1 Q E0
    rw [List.append_nil]
    refine ⟨r1.length.trans (hl _ _ _ _ h2), c, I1, ds, s0, r2, s2, r1, g1.s2, w1, h4, ?_⟩
    cases r2 with
    | inr x => cases h5
    | inl p =>
      obtain ⟨d2, o⟩ := p
      cases h5
      intro v I' H' g w r
      cases o with
      | false => exact q v I' H' (g1.tr w1 g) w r
      | true =>
        obtain ⟨p, rfl, hp, hn⟩ := r
        obtain ⟨u, hI, hc, hH, hs, sb, rp⟩ := hp.freeze g.s2
        refine q _ (upd I' p u) H' (g1.tr w1 ⟨g.s1.trans sb, hs, g.kp, fun a z => ?_⟩) (w.more hc hI) rp
        by_cases n : a = p
        · subst n; exact .inr hn
        · rw [upd_ne n] at z; exact g.nw a z
section
variable {X : Cx} {W : WX} {st : Stmt} {sts : List Stmt} {ts us : TS} {a b : Dxs} {dn : Ds} {e c : Expr} {es : List Expr} {te : TE} {ea : Dxe} {tt : TT} {bt : Dt} {tx : TA} {ax : Da} {p pos : Pos}
theorem ex_lift (h : ES X st ts dn) : EX X W st ts (dxLift dn) := ⟨h.p, sx_lift h.s⟩
theorem exs_nil : EXs X W [] tNext dxNext := ⟨pss_nil, sx_next⟩
theorem exs_cons (h1 : EX X W st ts a) (h2 : EXs X W sts us b) : EXs X W (st :: sts) (tSeq ts us) (dxSeq a b) := ⟨pss_cons h1.p h2.p, sx_seq h1.s h2.s⟩
theorem ex_if {b1 b2 : List Stmt} (ht : ET X c tt bt) (h1 : EXs X W b1 ts a) (h2 : EXs X W b2 us b) : EX X W (.If c b1 b2 pos) (tIfS tt ts us) (dxIf bt a b) := ⟨ps_if ht.p h1.p h2.p, sx_if ht.s h1.s h2.s⟩
theorem ex_for {tg iter : Expr} {body : List Stmt} {wi : TI} {di : Da} {g : TG} {dg : Dg} {js : List Nat} (hp : PassesOwn (model X.prog X.w) X.A X.env X.xe) (hc : X.calm = true) (hi : EI X tg iter wi di) (hg : EG X tg g dg js) (hb : EXs X W body ts a)
    (hs : ∀ x, foldedSetIterable iter X.env x = pure x := by intro _; rfl) : EX X W (.For tg iter body [] pos) (tFor wi g ts) (dxFor di dg a) := ⟨ps_for hp hc hi.p hg.p hb.p hs, sx_for hi.s hg.s hb.s⟩
/-- raise C(), C without an own __init__, where nothing is handled -/
theorem ex_raise {cx : Str} {bmB : List Value} {B newId initId : String} {p1 p2 : Pos} (hc : X.calm = true) (tk : L2N.Takes X W) (F : ExcBaseFacts B newId initId bmB) (q : PySem.W.excIn X.K (He.ga X.K cx) bmB newId = true) (gC : X.mg cx = some (.ref (He.ga X.K cx))) (kC : PySem.W.keepIn X.K (.ref (He.ga X.K cx)) = true)
    (r : Raises X (.ref (He.ga X.K cx))) (hg : Gl X cx) (hdb : (cx == ("__debug__" : Str)) = false := by decide) : EX X W (.Raise (some (.Call (.Name cx p1) [] [] p2)) none pos) (fun _ σ H => W (.ref (He.ga X.K cx)) none σ H) (dxRaise cx) :=
  ⟨L2N.ps_raise hc tk (pmk_own0 F q gC kC r hg hdb), sx_raise (K := X.kx)⟩
theorem exe_call {CX : CXT} {j k n : Nat} {x : Str} {fn : Fnx} (F : Cr CX X.prog X.w X.K X.mg X.base k x n fn) (hr : Room j X.A) (hk : k ≤ j) (hx : ∀ σ, PassesAt CX X σ (WE W σ)) (hg : Gl X x) (ha : EA X (e :: es) tx ax) (hl : ∀ ρ s ds s', ax ρ s = some (ds, s') → ds.length = n)
    (hdb : (x == ("__debug__" : Str)) = false := by decide) (he : starEach (e :: es) X.env = (false, eval e X.env) :: starEach es X.env := by rfl) (hpl : (backTo pos (starEach es X.env)).any (fun z => z.1) = false := by rfl) :
    EXe X W (.Call (.Name x p) (e :: es) [] pos) (tCallS (spR X.kx n fn) (WE W) tx) (dCallR fn ax) := by
  obtain ⟨f, fd, ps, hn, G, gm, kp, b⟩ := F.h
  exact ⟨pe_callS G (hr.mono hk) hg gm kp b hx ha.p hdb he hpl, sxe_call ha.s hl⟩
/-- .. called where it answers -/
theorem ee_callA {CX : CXT} {j k n : Nat} {x : Str} {fn : Fnx} (F : Cr CX X.prog X.w X.K X.mg X.base k x n fn) (hr : Room j X.A) (hk : k ≤ j) (hx : Passes CX X E0) (hg : Gl X x) (ha : EA X (e :: es) tx ax) (hl : ∀ ρ s ds s', ax ρ s = some (ds, s') → ds.length = n)
    (hdb : (x == ("__debug__" : Str)) = false := by decide) (he : starEach (e :: es) X.env = (false, eval e X.env) :: starEach es X.env := by rfl) (hpl : (backTo pos (starEach es X.env)).any (fun z => z.1) = false := by rfl) :
    EE X (.Call (.Name x p) (e :: es) [] pos) (tCall (spR X.kx n fn) [] E0 tx) (dCallA fn ax) := by
  obtain ⟨f, fd, ps, hn, G, gm, kp, b⟩ := F.h
  exact ⟨pe_call G (hr.mono hk) hg gm kp b .nil hx ha.p hdb he hpl, sn_callA ha.s hl⟩
theorem ex_expr (h : EXe X W e te ea) (hs : swapsWith e none pos.line X.env = pure false := by rfl) : EX X W (.Expr e pos) (tDrop te) (dxExpr ea) := ⟨ps_expr h.p hs, sx_expr h.s⟩
theorem ex_ret (h : EXe X W e te ea) : EX X W (.Return (some e) pos) (tRet te) (dxRet ea) := ⟨ps_ret h.p, sx_ret h.s⟩
/-- what leaves where nothing is to leave -/
theorem passN0 : Passes (L2N.CX X.prog X.w) X E0 := fun _ _ _ _ _ _ _ z => by
  obtain ⟨_, _, _, _, _, _, _, _, _, _, _, _, h⟩ := z
  exact h.elim
theorem passX0 : Passes (L2.CX X.prog X.w) X E0 := fun _ _ _ _ _ _ _ z => by
  obtain ⟨_, _, _, _, _, _, _, _, _, _, _, _, h⟩ := z
  exact h.elim
/-- an error without context, where any is taken -/
theorem passNX (tk : L2.Takes X W) (σ : L2.St) : PassesAt (L2N.CX X.prog X.w) X σ (WE W σ) := fun pins H s e s' I c => by
  refine L2.passAt tk σ pins H s e s' I ?_
  obtain ⟨a, B, H', cls, d, h1, fl, h⟩ := c
  exact ⟨a, B, H', cls, d, h1, L2H.flyingZ_imp (fun o z => z.zc) fl, h⟩
end
end Dl
end
section
set_option Elab.async false
set_option linter.all false
set_option maxRecDepth 100000
set_option maxHeartbeats 4000000
namespace Dl
open PySem PySem.Spec PyProof.Rows L2 StX RZ HotX
open LamX (CodeO TabB lamEnv lamCx)
/-! lambdas over data -/
def dLam (n : Nat) (cl : List (Str × Addr)) : Dn := fun ρ s => match ρ[(0 : Nat)]? with
  | some (.im .tb) => some (.clo n cl, s)
  | _ => none
theorem codeO_nt {c : Addr} {q : Str} : NT (CodeO c q) := fun ps z => by
  have z' : HO.ext _ = HO.tbl ps := z
  cases z'
theorem codeO_ndK {c : Addr} {q : Str} (kvs : List (Key × V)) : CodeO c q ≠ .dK kvs := fun z => by
  have z' : HO.ext _ = HO.dK kvs := z
  cases z'
section
variable {K : Kx} {c : Option Addr} {I H I1 H1 : Hp} {P c' : Addr} {ps : Array Value}
/-- the table as it is told -/
theorem Sub.tab (s : Sub I H) (h : I P = some (.tbl #[])) : TabI I H P := by
  rcases s P _ h with q | ⟨⟨kvs, q⟩, _⟩ | ⟨_, q⟩
  · exact ⟨#[], q, True.intro, fun pos cv hc => by
      have z : codeAmong pos [] = some cv := hc
      simp [codeAmong] at z⟩
  · cases q
  · exact q
/-- the code object is known from now on -/
theorem Made.gr {H2 : Hp} (m : Made P ps H H2 c') (s : Sub I H) (hP : I P = some (.tbl #[])) (hH : H P = some (.tbl ps)) (ha : ∀ (pos : Pos) (cv : Value), codeAmong pos ps.toList = some cv → ∃ c, cv = .ref c ∧ I c = some (CodeO c lamQ)) :
    ∃ I2, Gr none I H I2 H2 ∧ I2 c' = some (CodeO c' lamQ) := by
  rcases m with ⟨rfl, pos, hc⟩ | ⟨hn, more, rfl, ht, hm⟩
  · obtain ⟨c0, e, q⟩ := ha _ _ hc
    cases e
    exact ⟨I, .refl s, q⟩
  · have hI := s.free hn
    have nP : P ≠ c' := ne_of_none hP hI
    have sb : Sb I (upd I c' (CodeO c' lamQ)) := fun a o z => by rw [upd_ne (ne_of_none z hI)]; exact z
    refine ⟨upd I c' (CodeO c' lamQ), ⟨sb, fun a o z => ?_, fun a o _ z => ?_, fun a z => ?_⟩, upd_same⟩
    · by_cases h1 : a = c'
      · subst h1
        rw [upd_same] at z
        exact .inl (by rw [upd_same]; exact z)
      · rw [upd_ne h1] at z
        by_cases h2 : a = P
        · subst h2
          rw [hP] at z; cases z
          refine .inr (.inr ⟨rfl, ps ++ more, by rw [upd_ne nP, upd_same], ht, fun pos cv hc => ?_⟩)
          rcases hm pos cv hc with q | q
          · obtain ⟨c0, e1, e2⟩ := ha pos cv q
            exact ⟨c0, e1, sb _ _ e2⟩
          · exact ⟨c', q, upd_same⟩
        · rcases s a o z with q | q | ⟨q1, q2⟩
          · exact .inl (by rw [upd_ne h1, upd_ne h2]; exact q)
          · exact .inr (.inl (by rw [upd_ne h1, upd_ne h2]; exact q))
          · exact .inr (.inr ⟨q1, q2.mono sb (by rw [upd_ne h1, upd_ne h2])⟩)
    · have h1 : a ≠ c' := ne_of_none z hn
      rw [upd_ne h1]
      by_cases h2 : a = P
      · subst h2
        rw [hH] at z; cases z
        exact .inr ⟨⟨_, rfl⟩, _, upd_same⟩
      · exact .inl (by rw [upd_ne h2]; exact z)
    · by_cases h1 : a = c'
      · subst h1; exact .inr hn
      · rw [upd_ne h1] at z; exact .inl z
theorem Gr.tr0 {I2 H2 : Hp} (g : Gr none I H I1 H1) (k : Gr none I1 H1 I2 H2) : Gr none I H I2 H2 := g.trans (fun r e => nomatch e) k
theorem sn_lam {n : Nat} {t : LamT} {cl : List (Str × Addr)} {cc : Addr} {dflt : Bool} (ht : PySem.W.tabIn K.f "law" = some (cc, P)) (hl : lamT K.P n = some t) (hd : (dflt = false → t.params.defaults = []) ∧ (dflt = true → t.params.defaults ≠ [])) :
    SndE K (tLamV P t cl dflt) (dLam n cl) := fun c I H σ ρ s d s' e h Q q => by
  unfold dLam at h
  split at h
  · rename_i hs
    cases h
    obtain ⟨v, hv, rv⟩ := e.imm hs
    cases rv with
    | tb a hI =>
      have hIP : I P = some (.tbl #[]) := hI _ ht
      obtain ⟨ps, h1, h2, h3⟩ := e.sub.tab hIP
      refine ⟨ps, h1, h2, fun pos cv hc => ?_, fun f c' dV H1 H2 hT m hf => ?_⟩
      · obtain ⟨c0, e1, e2⟩ := h3 pos cv hc
        exact ⟨c0, e1, e.sub.get e2 codeO_ndK codeO_nt⟩
      · -- the default's tuple
        have t1 : ∃ I1, Gr none I H I1 H1 ∧ ((t.params.defaults = [] ∧ dV = .none) ∨ (t.params.defaults ≠ [] ∧ ∃ T, dV = .ref T ∧ I1 T = some (.tup [.int 0]))) ∧ H1 P = some (.tbl ps) := by
          rcases hT with ⟨z1, rfl, rfl⟩ | ⟨z1, T, rfl, nT, rfl⟩
          · exact ⟨I, .refl e.sub, .inl ⟨hd.1 z1, rfl⟩, h1⟩
          · exact ⟨_, .new e.sub nT, .inr ⟨hd.2 z1, T, rfl, upd_same⟩, by rw [upd_ne (ne_of_none h1 nT)]; exact h1⟩
        obtain ⟨I1, g1, hD, hP1⟩ := t1
        obtain ⟨I2, g2, hc2⟩ := m.gr g1.s2 (g1.s1 _ _ hIP) hP1 (fun pos cv hc => by
          obtain ⟨c0, e1, e2⟩ := h3 pos cv hc
          exact ⟨c0, e1, g1.s1 _ _ e2⟩)
        have g3 := Gr.new (o := LamO f t cl c' dV) g2.s2 hf
        have g := (g1.tr0 g2).tr0 g3
        exact q _ _ _ g.up (e.w.gr g) (.clo hl upd_same (g3.s1 _ _ hc2) (hD.imp id fun ⟨n, T, z1, z2⟩ => ⟨n, T, z1, g3.s1 _ _ (g2.s1 _ _ z2)⟩))
  · cases h
end
theorem ee_lam {X : Cx} {n : Nat} {P cc : Addr} {params : Arguments} {body : Expr} {scope : Scope} {pos : Pos} {dflt : Bool} (TB : TabB X.base X.mg cc P) (hcode : X.env.code = .ref cc) (hq : X.env.qual ++ "<lambda>" = lamQ) (L : lamNB X.N X.env.scope scope = true)
    (hd : (dflt = false ∧ params.defaults = []) ∨ (dflt = true ∧ ∃ j p, params.defaults = [.Constant (.int 0) j p])) (hk0 : params.kw_defaults = []) (ht : PySem.W.tabIn X.K "law" = some (cc, P)) (hl : lamT X.prog n = some ⟨params, body, scope⟩) :
    EE X (.Lambda params body scope pos) (tLamV P ⟨params, body, scope⟩ X.env.cells dflt) (dLam n X.env.cells) :=
  ⟨pe_lamv TB hcode hq rfl (lamN_by L) hd hk0, sn_lam (K := X.kx) ht hl ⟨fun z => hd.elim (fun h => h.2) (fun h => by rw [h.1] at z; cases z), fun z => hd.elim (fun h => by rw [h.1] at z; cases z) (fun h => by
    obtain ⟨_, j, p, h⟩ := h
    show params.defaults ≠ []
    rw [h]
    exact List.cons_ne_nil _ _)⟩⟩
/-- x = a call that may raise -/
theorem ex_set {X : Cx} {W : WX} {i : Nat} {x : Str} {px pos : Pos} {e : Expr} {te : TE} {ea : Dxe} (hN : X.N.Nodup) (hi : X.N[i]? = some x) (hx : Loc X.env.scope x) (h : EXe X W e te ea) (hf : X.fn x = true ∨ X.env.scope.names.lookup x = some .local := by first | exact .inl rfl | exact .inr rfl | assumption)
    (hs : swapsWith e (some (.Name x px)) pos.line X.env = pure false := by rfl) : EX X W (.Assign [.Name x px] e pos) (tAsg te (gName i)) (dxSet i ea) :=
  ⟨ps_set hN hi hx h.p hs hf, sx_set i h.s⟩
end Dl
end
section
set_option Elab.async false
set_option linter.all false
set_option maxRecDepth 100000
set_option maxHeartbeats 4000000
namespace Dl
open PySem PySem.Spec PyProof.Rows L2 StX RZ HotX
open LamX (CodeO TabB lamEnv lamCx)
/-! the def that calls a lambda and tells how it ended -/
/-- what is known of a lambda of X's: its text, its body's reading -/
structure LamD (X : Cx) (k : Nat) (t : LamT) (te : XK → TE) : Prop where
  L : LamN X.N X.env.scope t.scope
  B : LamB t
  p : ∀ (A : Around) (outer : List Env) (s : Shared) (H : Hp) (E : XK) (f c' : Addr), Room k (A.deeper (lamEnv X t.scope s.heap.objs.size f c')) → PE (lamCx X A outer s H E t.scope f c') t.body (te E)
def DfltOk (t : LamT) (dV : Value) (H : Hp) : Prop := (t.params.defaults = [] ∧ dV = .none) ∨ (t.params.defaults ≠ [] ∧ ∃ T, dV = .ref T ∧ H T = some (.tup [.int 0]))
/-- what is asked of a lambda of the table T -/
def tToldQ (K : PySem.W.Frag) (cl : List (Str × Addr)) (T : List (LamT × (XK → TE))) (cV : Value) (Ng : List Str) (ts : Addr → Value → Option Addr → TS) (σ : L2.St) (v : V) (H1 : Hp) (Q : VK) : Prop :=
  ∃ (t : LamT) (te : XK → TE) (f c' : Addr) (dV : Value), (t, te) ∈ T ∧ v = .ref f ∧ H1 f = some (LamO f t cl c' dV) ∧ H1 c' = some (CodeO c' lamQ) ∧ DfltOk t dV H1 ∧
    te (WE (wAs K cV 1 ts (fun _ _ _ _ => False) { nx := fun _ H' => Q (.str "") H', rt := Q }) (L2.start Ng [V.ref f])) σ H1 fun _ H2 => Q (.str "") H2
/-- the one value of a list -/
def one1 (P : V → Hp → Prop) : List V → Hp → Prop := fun vs H => match vs with
  | [v] => P v H
  | _ => False
/-- g(e): e a lambda of the table T -/
def tTold (K : PySem.W.Frag) (cl : List (Str × Addr)) (T : List (LamT × (XK → TE))) (cV : Value) (Ng : List Str) (ts : Addr → Value → Option Addr → TS) (ta : TE) : TE := fun σ H Q => ta σ H fun v H1 => tToldQ K cl T cV Ng ts σ v H1 Q
theorem takesE0 {X : Cx} : L2.Takes X (fun _ _ _ _ => False) := fun _ _ x => by
  obtain ⟨_, _, _, _, _, _, _, _, _, _, _, _, _, _, _, _, z⟩ := x
  exact z.elim
section
variable {X : Cx} {params : Arguments} {body suite : List Stmt} {b₀ : Stmt} {scope : Scope} {g : Addr} {fd : FuncData} {x a en vx : Str} {Ng : List Str} {k j : Nat} {cV : Value} {T : List (LamT × (XK → TE))} {ts : Addr → Value → Option Addr → TS} {e : Expr} {ta : TE} {p p1 p2 p3 p4 p5 p6 p7 p8 pos : Pos}
theorem pe_told (F : FunD X.K x x params body scope [] [] g fd) (hbody : body = [.Try [.Expr (.Call (.Name a p1) [] [] p2) p3] [.ExceptHandler (some (.Name vx p4)) (some en) (b₀ :: suite) p5] [] [] p6, .Return (some (.Constant (.str "") j p7)) p8])
    (S : FnScope Ng [a] scope) (hN0 : Ng[0]? = some a) (hva : Vis scope a) (hN1 : Ng[1]? = some en) (hen : scope.names.lookup en = some .local) (hge : scope.names.lookup vx = some .globalImplicit) (hdv : (vx == ("__debug__" : Str)) = false) (hV : X.mg vx = some cV)
    (hq : X.env.qual ++ "<lambda>" = lamQ) (hT : ∀ q ∈ T, LamD X k q.1 q.2)
    (hsu : ∀ (cdv : Value) (s : Shared) (H : Hp) (a : Addr) (oe : Obj) (cls : Value) (d : Option Addr) (pn : List (Addr × Obj)), Zc cls d oe → (∃ vs, oe.data = .fields vs) →
      PSs (((cxOf CX0 X.prog X.w X.K X.mg X.base Ng x scope g cdv X.A X.stack s H E0).nox).suite a ((a, oe) :: pn)) (b₀ :: suite) (ts a cls d))
    (hr : Room (k + 2) X.A) (hg : Gl X x) (hm : X.mg x = some (.ref g)) (hk : PySem.W.keepIn X.K (.ref g) = true) (b : Binds X.K fd [a] []) (ha : PE X e ta)
    (hdb : (x == ("__debug__" : Str)) = false := by decide) (hda : (a == ("__debug__" : Str)) = false := by decide) (hca : (a == ("__classdict__" : Str)) = false := by decide)
    (he : starEach [e] X.env = (false, eval e X.env) :: starEach [] X.env := by rfl) (hpl : (backTo pos (starEach [] X.env)).any (fun z => z.1) = false := by rfl) :
    PE X (.Call (.Name x p) [e] [] pos) (tTold X.K X.env.cells T cV Ng ts ta) := by
  subst hbody
  refine ⟨fun pins s σ H Q I h => ?_⟩
  refine wpAny_Call_Name_kw (ld_glob I hg hm ?_ hdb)
  refine PySem.W.callWith_K (h₀ := X.base) I.ok.mod.kin hk (thn ((pa_cons ha pa_nil he).run pos pins s σ H (one1 fun v H1 => tToldQ X.K X.env.cells T cV Ng ts σ v H1 Q) I h) fun us s1 hu => ?_) he hpl
  obtain ⟨vs, H1, I1, r1, hu⟩ := hu
  obtain ⟨v, rfl, hu⟩ : ∃ v, vs = [v] ∧ tToldQ X.K X.env.cells T cV Ng ts σ v H1 Q := by
    unfold one1 at hu
    split at hu
    · exact ⟨_, rfl, hu⟩
    · exact hu.elim
  obtain ⟨t, te, f, c', dV, hmem, rfl, hf, hc, hD, hq1⟩ := hu
  refine ⟨I1.kIn, ?_⟩
  have D := hT _ hmem
  obtain ⟨oc, od, dV0, kV0, doc0, pm0, an0, cdv, ct0, osl, rfl, lk, hcd, _, _⟩ := F.ex
  obtain rfl : us = [.ref f] := by
    cases r1 with
    | cons ru rn => cases rn; cases ru; rfl
  have rc : codeAny (model X.prog X.w) X.A (.call (.ref g) ⟨[.ref f], []⟩) (CR CX0 X.stack X.prog X.w H1 s1 Q E0) s1 := by
    refine LamX.run_ofS (k := k + 1) (N := Ng) (ps := [a]) (us := [.ref f]) (vs := [.ref f]) lk hcd S hr I1.env0 (b s1 [.ref f] I1.kIn rfl) (.cons rfl .nil) rfl fun hr' => ?_
    have tr := ps_try_as (X := (cxOf CX0 X.prog X.w X.K X.mg X.base Ng x scope g cdv X.A X.stack s1 H1 E0).nox) (i := 1) (c := cV) (ts := ts) (Wout := fun _ _ _ _ => False) (pos := p6) (pos' := p5) (np := p4)
      (body := [.Expr (.Call (.Name a p1) [] [] p2) p3]) (tb := fun W => tSeq (tDrop fun σZ HZ Q2 => σZ[0]? = some (some (.ref f)) ∧ HZ f = some (LamO f t X.env.cells c' dV) ∧ HZ c' = some (CodeO c' lamQ) ∧ DfltOk t dV HZ ∧ te (WE W σZ) σ HZ Q2) tNext)
      rfl rfl S.nd hN1 hen ⟨hge, hdv, .inl hV⟩ takesE0 (fun W pn xe tk _ => ?_) (fun a oe cls d pn hz hf => hsu cdv s1 H1 a oe cls d pn hz hf)
    · refine ⟨_, (pss_cons tr (pss_one (ps_ret pe_str))).nox, ?_⟩
      exact ⟨rfl, hf, hc, hD, hq1⟩
    · exact pss_cons (ps_expr (pe_clo (CXg := CX0) (Eg := E0) (i := 0) I1 D.L hq D.B tk hr' (fun A outer s H E hr2 => D.p A outer s H E f c' hr2) hN0 hva hda hca)) pss_nil
  refine wpAny_call (codeAny_mono rc fun r s2 hq => ?_)
  cases r with
  | error e => exact (show False from hq).elim
  | ok fl =>
    cases fl with
    | ret u => exact I1.after hq
    | next => exact False.elim hq
    | brk => exact False.elim hq
    | cont => exact False.elim hq
end
end Dl
end
section
set_option Elab.async false
set_option linter.all false
set_option maxRecDepth 100000
set_option maxHeartbeats 4000000
namespace Dl
open PySem PySem.Spec PyProof.Rows L2 StX RZ HotX
open LamX (CodeO TabB lamEnv lamCx)
/-! a lambda called and told of, over data -/
structure LamX8 (X : Cx) (k n : Nat) (t : LamT) (te : XK → TE) (dx : Dxe) : Prop where
  l : lamT X.prog n = some t
  d : LamD X k t te
  s : ∀ E : XK, SndXE X.kx (fun cls d _ H => E cls d H) (te E) dx
theorem lamx_mk {X : Cx} {k n : Nat} {t : LamT} {te : Around → List Env → Shared → Hp → XK → Addr → Addr → TE} {dx : Dxe} (l : lamT X.prog n = some t) (L : lamNB X.N X.env.scope t.scope = true) (B : LamB t) (hr : Room (k + 1) X.A)
    (h : ∀ (A : Around) (outer : List Env) (s : Shared) (H : Hp) (E : XK) (f c' : Addr), Room k (A.deeper (lamEnv X t.scope s.heap.objs.size f c')) → EXe (lamCx X A outer s H E t.scope f c') (fun cls d _ H => E cls d H) t.body (te A outer s H E f c') dx)
    (hg : ∀ (A : Around) (outer : List Env) (s : Shared) (H : Hp) (E : XK) (f c' : Addr), te A outer s H E f c' = te X.A [] X.s_0 X.H_0 E 0 0 := by intros; rfl) : LamX8 X k n t (fun E => te X.A [] X.s_0 X.H_0 E 0 0) dx :=
  ⟨l, ⟨lamN_by L, B, fun A outer s H E f c' r => hg A outer s H E f c' ▸ (h A outer s H E f c' r).p⟩, fun E => (h X.A [] X.s_0 X.H_0 E 0 0 (hr.deeper _)).s⟩
def slotX (x : Exn) (a dd : Addr) : D := match x.ix with
  | none => .fn (.ref a)
  | some e => .exi a dd e
def dictX (x : Exn) (dd : Addr) : Option Addr := match x.ix with
  | none => none
  | some _ => some dd
abbrev Dsu := Str → Addr → Option Addr → Ds
/-- the suite's slots -/
def suiteR (m : Nat) (f : V) (x : Exn) (a dd : Addr) : List Sl := (Sl.im (.fn f) :: List.replicate (m - 1) .un).set 1 (.im (slotX x a dd))
noncomputable def toldEnd (NM : List (Str × Bool)) (m : Nat) (dsu : Dsu) (x : Exn) (s : Tau) : Option (D × Tau) :=
  open Classical in if h : (x.nm, x.ix.isSome) ∈ NM ∧ ∃ r : D × Tau, ∀ (f : V) (a dd : Addr), dsu x.nm a (dictX x dd) (suiteR m f x a dd) s = some (.rt r.1 false, r.2) then some (Classical.choose h.2) else none
theorem toldEnd_of {NM : List (Str × Bool)} {m : Nat} {dsu : Dsu} {x : Exn} {s s2 : Tau} {d : D} (h1 : (x.nm, x.ix.isSome) ∈ NM) (h2 : ∀ (f : V) (a dd : Addr), dsu x.nm a (dictX x dd) (suiteR m f x a dd) s = some (.rt d false, s2)) : toldEnd NM m dsu x s = some (d, s2) := by
  have h : (x.nm, x.ix.isSome) ∈ NM ∧ ∃ r : D × Tau, ∀ (f : V) (a dd : Addr), dsu x.nm a (dictX x dd) (suiteR m f x a dd) s = some (.rt r.1 false, r.2) := ⟨h1, (d, s2), h2⟩
  unfold toldEnd
  rw [dif_pos h]
  have e := (Classical.choose_spec h.2 .non 0 0).symm.trans (h2 .non 0 0)
  injection e with e
  have e1 := congrArg Prod.fst e
  have e2 := congrArg Prod.snd e
  dsimp only at e1 e2
  injection e1 with e1
  exact congrArg some (Prod.ext e1 e2)
theorem toldEnd_some {NM : List (Str × Bool)} {m : Nat} {dsu : Dsu} {x : Exn} {s : Tau} {r : D × Tau} (h : toldEnd NM m dsu x s = some r) : (x.nm, x.ix.isSome) ∈ NM ∧ ∀ (f : V) (a dd : Addr), dsu x.nm a (dictX x dd) (suiteR m f x a dd) s = some (.rt r.1 false, r.2) := by
  unfold toldEnd at h
  split at h
  · rename_i hh
    have hall := Classical.choose_spec hh.2
    cases h
    exact ⟨hh.1, hall⟩
  · cases h
noncomputable def dTold (T : List (Nat × Dxe)) (cl : List (Str × Addr)) (NM : List (Str × Bool)) (m : Nat) (dsu : Dsu) (da : Dn) : Dn := fun ρ s => (da ρ s).bind fun p => match p.1 with
  | .clo n cl' => if cl' = cl then (T.lookup n).bind fun dx => (dx ρ p.2).bind fun r => match r.1 with
      | .inl _ => some (.str "", r.2)
      | .inr x => toldEnd NM m dsu x r.2
    else none
  | _ => none
/-- the reading of the suite, whatever class of the list it handles -/
def tSuN (K : PySem.W.Frag) (NM : List (Str × Bool)) (tsu : Str → Addr → Option Addr → TS) : Addr → Value → Option Addr → TS := fun a cls d D σ H => ∃ nm b, (nm, b) ∈ NM ∧ cls = .ref (He.ga K nm) ∧ d.isSome = b ∧ tsu nm a d D σ H
theorem lookup_mem {α : Type} {n : Nat} {x : α} : ∀ {l : List (Nat × α)}, l.lookup n = some x → (n, x) ∈ l
  | [], h => by cases h
  | (m, y) :: l, h => by
    rw [List.lookup_cons] at h
    cases e : n == m with
    | true => rw [e] at h; cases h; rw [eq_of_beq e]; exact List.mem_cons_self
    | false => rw [e] at h; exact List.mem_cons_of_mem _ (lookup_mem h)
theorem lamO_ndK {a c' : Addr} {t : LamT} {cl : List (Str × Addr)} {dV : Value} (kvs : List (Key × V)) : LamO a t cl c' dV ≠ .dK kvs := fun z => by
  have z' : HO.ext _ = HO.dK kvs := z
  cases z'
theorem lamO_nt {a c' : Addr} {t : LamT} {cl : List (Str × Addr)} {dV : Value} : NT (LamO a t cl c' dV) := fun ps z => by
  have z' : HO.ext _ = HO.tbl ps := z
  cases z'
section
variable {X : Cx} {k : Nat} {T : List (Nat × Dxe)} {TT : List (LamT × (XK → TE))} {cV : Value} {Ng : List Str} {NM : List (Str × Bool)} {tsu : Str → Addr → Option Addr → TS} {dsu : Dsu} {ta : TE} {da : Dn} {cl : List (Str × Addr)}
theorem sn_told (hT : ∀ q ∈ T, ∃ t te, (t, te) ∈ TT ∧ LamX8 X k q.1 t te q.2) (hx : ∀ q ∈ NM, PySem.W.exmOne X.K (.ref (He.ga X.K q.1)) cV = some true) (hl : 1 < Ng.length) (hsu : ∀ q ∈ NM, ∀ a d, d.isSome = q.2 → SndS X.kx (tsu q.1 a d) (dsu q.1 a d)) (ha : SndE X.kx ta da) :
    SndE X.kx (tTold X.K cl TT cV Ng (tSuN X.K NM tsu) ta) (dTold T cl NM Ng.length dsu da) := fun c I H σ ρ s d s' e h0 Q q => by
  obtain ⟨⟨z, s1⟩, h1, h⟩ := bind_some_of h0
  clear h0
  refine ha _ _ _ _ _ _ _ _ e h1 _ fun v I1 H1 g1 w1 r1 => ?_
  cases r1 with
  | @clo f n cl' c' dV t hl' hf hc hD =>
    dsimp only at h
    by_cases hcl : cl' = cl
    case neg => rw [if_neg hcl] at h; cases h
    rw [if_pos hcl] at h
    subst hcl
    obtain ⟨dx, h2, h⟩ := bind_some_of h
    obtain ⟨⟨r, s2⟩, h3, h⟩ := bind_some_of h
    obtain ⟨t2, te, hm, L⟩ := hT _ (lookup_mem h2)
    have et : t2 = t := Option.some.inj (L.l.symm.trans hl')
    subst et
    refine ⟨t2, te, f, c', dV, hm, rfl, g1.s2.get hf lamO_ndK lamO_nt, g1.s2.get hc codeO_ndK codeO_nt, hD.imp id (fun ⟨a, T0, b, i⟩ => ⟨a, T0, b, g1.s2.tup i⟩), ?_⟩
    refine L.s _ c I1 H1 σ ρ s1 r s2 (e.grow g1 w1) h3 _ ?_
    cases r with
    | inl d1 =>
      cases h
      exact fun v I' H' g w r => q _ I' H' (g1.tr w1 g) w (.str _)
    | inr x =>
      obtain ⟨hnm, hall⟩ := toldEnd_some h
      intro I' H' cls dd g w r
      obtain ⟨hcls, hix⟩ := r
      refine ⟨true, by rw [hcls]; exact hx _ hnm, fun _ a na => ⟨x.nm, _, hnm, hcls, ?_, ?_⟩, fun z => nomatch z⟩
      · rcases hix with ⟨z1, z2⟩ | ⟨e0, d0, v0, z1, z2, _⟩ <;> rw [z1, z2] <;> rfl
      -- the suite
      have key : ∃ d0 : Addr, dd = dictX x d0 ∧ Rep X.kx c I' (.ref a) (slotX x a d0) := by
        unfold dictX slotX
        rcases hix with ⟨z1, z2⟩ | ⟨e0, d0, v0, z1, z2, z3, z4⟩
        · rw [z1]; exact ⟨0, z2, .fn _⟩
        · rw [z1]; exact ⟨d0, z2, .exi z3 z4⟩
      obtain ⟨d0, rfl, rs⟩ := key
      have hst : L2.start Ng [V.ref f] = some (.ref f) :: List.replicate (Ng.length - 1) none := rfl
      have e1 : Ec X.kx c I' H' (L2.start Ng [V.ref f]) (Sl.im (.fn (.ref f)) :: List.replicate (Ng.length - 1) .un) s2 := by
        refine ⟨g.s2, w, ?_, fun i j p d e _ _ _ h3 _ => start_im (ds := [.fn (.ref f)]) h3⟩
        rw [hst]
        exact slL_start (vs := [.ref f]) (ds := [.fn (.ref f)]) _ (.cons (.fn _) .nil)
      have e2 := e1.setI rs 1
      have e3 : EnvS X.kx c I' H' I' H' ((L2.start Ng [V.ref f]).set 1 (some (.ref a))) (suiteR Ng.length (.ref f) x a d0) s2 :=
        ⟨e2, .refl _, .refl _ _, fun a z => .inl z, fun i p d _ h => by
          unfold suiteR at h
          by_cases z : 1 = i
          · subst z
            rw [List.getElem?_set] at h
            simp only [if_true] at h
            split at h <;> cases h
          · rw [List.getElem?_set_ne z] at h
            exact (start_im (ds := [.fn (.ref f)]) h).elim, fun r hr z => by
          obtain ⟨_, sc, z2, _⟩ := w r hr
          rw [z] at z2; cases z2⟩
      refine hsu _ hnm a (dictX x d0) (by unfold dictX; cases x.ix <;> rfl) _ _ _ _ _ _ _ _ _ _ e3 (hall (.ref f) a d0) _ ?_
      exact fun v I2 H2 g2 w2 r2 => q v I2 H2 ((g1.tr w1 g).tr w g2) w2 r2
  | _ => cases h
end
end Dl
end
section
set_option Elab.async false
set_option linter.all false
set_option maxRecDepth 100000
set_option maxHeartbeats 4000000
namespace Dl
open PySem PySem.Spec PyProof.Rows L2 StX RZ HotX
open LamX (CodeO TabB lamEnv lamCx)
/-! the suite of such a def -/
abbrev zCx (X : Cx) (Ng : List Str) (x : Str) (scope : Scope) (g : Addr) (cdv : Value) (s : Shared) (H : Hp) : Cx := (cxOf CX0 X.prog X.w X.K X.mg X.base Ng x scope g cdv X.A X.stack s H E0).nox
abbrev oeX (C : Addr) (d : Option Addr) : Obj := { cls := .ref C, dict := d, data := .fields #[.none, .none, .none, .none, .bool false, .none] }
/-- the suite, class by class -/
structure Suites (X : Cx) (NM : List (Str × Bool)) (Ng : List Str) (x : Str) (scope : Scope) (g : Addr) (suite : List Stmt) (tsu : Str → Addr → Option Addr → TS) (dsu : Dsu) : Prop where
  p : ∀ (cdv : Value) (s : Shared) (H : Hp) (a : Addr) (oe : Obj) (cls : Value) (d : Option Addr) (pn : List (Addr × Obj)), Zc cls d oe → (∃ vs, oe.data = .fields vs) → PSs ((zCx X Ng x scope g cdv s H).suite a ((a, oe) :: pn)) suite (tSuN X.K NM tsu a cls d)
  s : ∀ q ∈ NM, ∀ a d, d.isSome = q.2 → SndS X.kx (tsu q.1 a d) (dsu q.1 a d)
theorem suites_mk {X : Cx} {NM : List (Str × Bool)} {Ng : List Str} {x : Str} {scope : Scope} {g : Addr} {suite : List Stmt} {tsu : Value → Shared → Hp → Obj → List (Addr × Obj) → Str → Addr → Option Addr → TS} {dsu : Dsu}
    (h : ∀ (nm : Str) (b : Bool), (nm, b) ∈ NM → ∀ (cdv : Value) (s : Shared) (H : Hp) (a : Addr) (oe : Obj) (d : Option Addr) (pn : List (Addr × Obj)), d.isSome = b → Zc (.ref (He.ga X.K nm)) d oe → (∃ vs, oe.data = .fields vs) →
      ESs ((zCx X Ng x scope g cdv s H).suite a ((a, oe) :: pn)) suite (tsu cdv s H oe pn nm a d) (dsu nm a d))
    (hg : ∀ (cdv : Value) (s : Shared) (H : Hp) (oe : Obj) (pn : List (Addr × Obj)) (nm : Str) (a : Addr) (d : Option Addr), tsu cdv s H oe pn nm a d = tsu .none X.s_0 X.H_0 (oeX 0 none) [] nm a d := by intros; rfl) :
    Suites X NM Ng x scope g suite (tsu .none X.s_0 X.H_0 (oeX 0 none) []) dsu := by
  refine ⟨fun cdv s H a oe cls d pn hz hf => ⟨fun pins s2 σ H2 D I q => ?_⟩, fun q hq a d hd => ?_⟩
  · obtain ⟨nm, b, hm, rfl, hd, q⟩ := q
    rw [← hg cdv s H oe pn nm a d] at q
    exact (h nm b hm cdv s H a oe d pn hd hz hf).p.run pins s2 σ H2 D I q
  · have k := (h q.1 q.2 hq .none X.s_0 X.H_0 a (oeX (He.ga X.K q.1) d) d [] hd ⟨rfl, rfl⟩ ⟨_, rfl⟩).s
    rw [hg] at k
    exact k
section
variable {X : Cx} {params : Arguments} {body suite : List Stmt} {b₀ : Stmt} {scope : Scope} {g : Addr} {fd : FuncData} {x a en vx : Str} {Ng : List Str} {k j : Nat} {cV : Value} {T : List (Nat × Dxe)} {NM : List (Str × Bool)} {tsu : Str → Addr → Option Addr → TS} {dsu : Dsu} {e : Expr} {ta : TE} {da : Dn} {p p1 p2 p3 p4 p5 p6 p7 p8 pos : Pos}
theorem ee_told {TT : List (LamT × (XK → TE))} (F : FunD X.K x x params body scope [] [] g fd) (hbody : body = [.Try [.Expr (.Call (.Name a p1) [] [] p2) p3] [.ExceptHandler (some (.Name vx p4)) (some en) (b₀ :: suite) p5] [] [] p6, .Return (some (.Constant (.str "") j p7)) p8])
    (S : FnScope Ng [a] scope) (hN0 : Ng[0]? = some a) (hva : Vis scope a) (hN1 : Ng[1]? = some en) (hen : scope.names.lookup en = some .local) (hge : scope.names.lookup vx = some .globalImplicit) (hdv : (vx == ("__debug__" : Str)) = false) (hV : X.mg vx = some cV)
    (hq : X.env.qual ++ "<lambda>" = lamQ) (hT : ∀ q ∈ T, ∃ t te, (t, te) ∈ TT ∧ LamX8 X k q.1 t te q.2) (hTT : ∀ q ∈ TT, LamD X k q.1 q.2) (hx : ∀ q ∈ NM, PySem.W.exmOne X.K (.ref (He.ga X.K q.1)) cV = some true) (SU : Suites X NM Ng x scope g (b₀ :: suite) tsu dsu)
    (hr : Room (k + 2) X.A) (hg : Gl X x) (hm : X.mg x = some (.ref g)) (hk : PySem.W.keepIn X.K (.ref g) = true) (b : Binds X.K fd [a] []) (ha : EE X e ta da)
    (hdb : (x == ("__debug__" : Str)) = false := by decide) (hda : (a == ("__debug__" : Str)) = false := by decide) (hca : (a == ("__classdict__" : Str)) = false := by decide)
    (he : starEach [e] X.env = (false, eval e X.env) :: starEach [] X.env := by rfl) (hpl : (backTo pos (starEach [] X.env)).any (fun z => z.1) = false := by rfl) :
    EE X (.Call (.Name x p) [e] [] pos) (tTold X.K X.env.cells TT cV Ng (tSuN X.K NM tsu) ta) (dTold T X.env.cells NM Ng.length dsu da) :=
  ⟨pe_told F hbody S hN0 hva hN1 hen hge hdv hV hq hTT SU.p hr hg hm hk b ha.p hdb hda hca he hpl, sn_told hT hx (List.getElem?_eq_some_iff.mp hN1).1 SU.s ha.s⟩
end
/-! isinstance(e, C2) of the error that is handled -/
def dIsX (b : Bool) (i : Nat) (a : Addr) : Dn := fun ρ s => match ρ[i]? with
  | some (.im (.fn (.ref a'))) => if a' = a then some (.bl b, s) else none
  | some (.im (.exi a' _ _)) => if a' = a then some (.bl b, s) else none
  | _ => none
end Dl
end
section
set_option Elab.async false
set_option linter.all false
set_option maxRecDepth 100000
set_option maxHeartbeats 4000000
namespace Dl
open PySem PySem.Spec PySem.Calls PyProof.Rows L2 StX RZ HotX
/-! an own error whose __init__ says super().__init__(index); self.index = index -/
def spIni (C : Addr) : Sp := fun vs H Q _ => ∃ (a : Addr) (v : V), vs = [.ref a, v] ∧ H a = some (exo a C none) ∧ ∀ dx, H dx = none → dx ≠ a → Q .non (upd (upd H dx (exd dx [("index", v)])) a (exo a C (some dx)))
/-- what the written part says of it -/
structure SupC (P : Program) (K : PySem.W.Frag) (mg : Str → Option Value) (C fI cc cda : Addr) (params : Arguments) (body : List Stmt) (scope : Scope) (qual : Str) (fd : FuncData) : Prop where
  ox : OexC K C
  fn : ∃ (oc dV kV doc pm ct : Value) (an od : Option Addr) (osl : Array (Option Value)), fd = PySem.W.ksFn "__init__" qual params body scope dV kV doc pm an (.ref cda) ct cc ∧ K.lookup fI = some ⟨oc, od, .func fd, osl⟩
  cd : PySem.W.codeIn K (.ref cda) qual = true
  cell : ∃ cl cld csl, K.lookup cc = some ⟨cl, cld, .cell (some (.ref C)), csl⟩
  code : ∃ ccl cdd vs ccs file tf, K.lookup cda = some ⟨ccl, cdd, .fields vs, ccs⟩ ∧ vs[2]? = some (.str file tf) ∧ ((P.main.file : Str) == file) = true
  sub : PySem.W.mroIn K C (.ref C) = some true
  sup : mg "super" = none
  top : (P.main.scope.names.lookup ("super" : Str)).isSome = false
  ini : PySem.W.ks_superIn K C C "__init__" = some (some (.builtin "ValueError.__init__"))
  opq : PySem.W.nsIn K cStatics "thirdparty.any" = some none
  isv : PySem.W.subIn K (.ref C) (.type "ValueError") = some true
  fld : PySem.W.findIn K (.ref C) "index" = some none
  args : ∃ ar : Arg, (params.posonlyargs ++ params.args).head? = some ar ∧ ar.arg = "self"
structure SupS (scope : Scope) : Prop where
  kind : scope.kind = .function
  co : scope.isCoroutine = false
  gen : scope.isGenerator = false
  own : ∀ y ∈ scope.names, y.2 ≠ .cell
  free : ∀ y, scope.names.lookup y = some .free → y = "__class__"
  cls : scope.names.lookup ("__class__" : Str) = some .free
  sup : scope.names.lookup ("super" : Str) = some .globalImplicit
  slf : scope.names.lookup ("self" : Str) = some .local
  idx : scope.names.lookup ("index" : Str) = some .local
def iCx (P : Program) (w : World) (K : PySem.W.Frag) (mg : Str → Option Value) (base : Heap) (qual : Str) (scope : Scope) (f cc : Addr) (cdv : Value) (A : Around) (outer : List Env) (s : Shared) (H : Hp) : Cx where
  prog := P
  w := w
  K := K
  mg := mg
  base := base
  A := A.deeper (PySem.W.ksEnv qual scope s.heap.objs.size f cdv cc)
  N := ["self", "index"]
  s_0 := s
  H_0 := H
  env := PySem.W.ksEnv qual scope s.heap.objs.size f cdv cc
  outer := outer
  stack := PySem.W.ksEnv qual scope s.heap.objs.size f cdv cc :: outer
  ex := []
  fn := fun _ => false
  calm := true
  pn := []
  xe := fun _ _ => False
section
variable {P : Program} {w : World} {K : PySem.W.Frag} {mg : Str → Option Value} {base : Heap}
theorem ini_begin {qual : Str} {scope : Scope} {f cc : Addr} {cdv : Value} {A : Around} {outer : List Env} {s : Shared} {H : Hp} {h₁ : Heap} {tk : Nat} {v1 v2 : V} {u1 u2 : Value} {C : Addr} (S : SupS scope) (e0 : Env0 P w K mg base A outer s H) (hd : A.handled = none) (hc : ∃ cl cld csl, K.lookup cc = some ⟨cl, cld, .cell (some (.ref C)), csl⟩)
    (hns : h₁.Ns s.heap.objs.size fun y => ([("self", u1), ("index", u2)] : List (Str × Value)).reverse.lookup y) (kp : ∀ b o, s.heap.get? b = some o → h₁.get? b = some o) (r1 : RelV v1 u1) (r2 : RelV v2 u2) :
    Inv (iCx P w K mg base qual scope f cc cdv A outer s H) [] [some v1, some v2] H { s with heap := h₁, toks := tk } := by
  have noA : ∀ b : Addr, b ∉ (iCx P w K mg base qual scope f cc cdv A outer s H).ex := fun b z => nomatch (show b ∈ ([] : List Addr) from z)
  obtain ⟨cl, cld, csl, hc⟩ := hc
  have only : ∀ {x c}, (iCx P w K mg base qual scope f cc cdv A outer s H).env.cells.lookup x = some c → x = "__class__" ∧ c = cc := fun {x c} e => by
    have e : ([("__class__", cc)] : List (Str × Addr)).lookup x = some c := e
    rw [List.lookup_cons] at e
    cases q : x == ("__class__" : Str) with
    | true => rw [q] at e; cases e; exact ⟨eq_of_beq q, rfl⟩
    | false => rw [q] at e; cases e
  have inB := e0.bs cc _ (e0.mod.kin _ _ hc)
  have hL : ([("__class__", cc)] : List (Str × Addr)).lookup ("__class__" : Str) = some cc := by simp [List.lookup]
  refine ⟨⟨e0.mod, S.kind, rfl, rfl, Nat.le_refl _, fun x y c a b => (only a).1.trans (only b).1.symm, fun x hx => ?_, fun x c z _ => (Bool.noConfusion (show false = true from z)), fun _ => hd, Around.frames_deeper e0.frames, .inr ⟨rfl, rfl⟩, fun b z => absurd z (noA b), e0.bs, e0.bsz,
      fun b _ _ => noA b, fun b z => absurd z (noA b), e0.funs, e0.frf⟩,
    rfl, e0.bare, Un.kept kp, ⟨_, hns, fun i y v a b c => ?_⟩, fun x c e => ?_, e0.hok.fresh (Nat.le_refl _), fun x c e => ?_, fun q hq => (nomatch (show q ∈ ([] : List (Addr × Obj)) ++ [] from hq)), e0.hok.kept kp, rfl⟩
  · rcases (show scope.names.lookup x = some .cell ∨ scope.names.lookup x = some .free from hx) with hx | hx
    · exact absurd rfl (S.own _ (PySem.mem_of_lookup hx))
    · rw [S.free _ hx]; exact ⟨cc, hL⟩
  · match i, a, b with
    | 0, a, b => cases a; cases b; exact ⟨u1, r1, .inl ⟨S.slf, rfl⟩⟩
    | 1, a, b => cases a; cases b; exact ⟨u2, r2, .inl ⟨S.idx, rfl⟩⟩
    | n + 2, a, b => cases a
  · obtain ⟨rfl, rfl⟩ := only e
    exact ⟨_, _, kp _ _ inB.1, rfl⟩
  · obtain ⟨rfl, rfl⟩ := only e
    exact inB.2
abbrev supE (p0 p1 p2 p3 p4 : Pos) : Expr := .Call (.Attribute (.Call (.Name "super" p0) [] [] p1) "__init__" p2) [.Name "index" p3] [] p4
/-- such an __init__ keeps its promise -/
theorem sup_ok {C fI cc cda : Addr} {params : Arguments} {scope : Scope} {qual : Str} {fd : FuncData} {p0 p1 p2 p3 p4 p5 p6 p7 p8 p9 : Pos}
    (S : SupS scope) (F : SupC P K mg C fI cc cda params [.Expr (supE p0 p1 p2 p3 p4) p5, .Assign [.Attribute (.Name "self" p6) "index" p7] (.Name "index" p8) p9] scope qual fd)
    (hI : ∀ L, interactive (PySem.W.ksEnv qual scope L fI (.ref cda) cc) = false) (hS1 : ∀ L, swapsWith (supE p0 p1 p2 p3 p4) none p5.line (PySem.W.ksEnv qual scope L fI (.ref cda) cc) = pure false)
    (hS2 : ∀ L, swapsWith (.Name "index" p8) (some (.Attribute (.Name "self" p6) "index" p7)) p9.line (PySem.W.ksEnv qual scope L fI (.ref cda) cc) = pure false)
    (hM : ∀ L, ∃ pl : Sem Bool, eval (supE p0 p1 p2 p3 p4) (PySem.W.ksEnv qual scope L fI (.ref cda) cc) = (do
      let ov ← attributeBase (.Call (.Name "super" p0) [] [] p1) "__init__" (PySem.W.ksEnv qual scope L fI (.ref cda) cc) (eval (.Call (.Name "super" p0) [] [] p1) (PySem.W.ksEnv qual scope L fI (.ref cda) cc))
      standAt p2.atName
      let (f, first) ← holding [ov] (getMethod ov "__init__" pl)
      callWith p4 f first (backTo p4 (starEach [.Name "index" p3] (PySem.W.ksEnv qual scope L fI (.ref cda) cc))) [])) :
    FnOk P w K mg base CX0 1 fI fd ["self", "index"] (spIni C) := by
  obtain ⟨ar, har, hself⟩ := F.args
  obtain ⟨oc, dV, kV, doc, pm, ct, an, od, osl, rfl, lk⟩ := F.fn
  refine ⟨fun vs H Q E h => by obtain ⟨a, v, rfl, _⟩ := h; rfl, fun A outer s H args us vs Q E hr e0 hb r h => ?_⟩
  obtain ⟨a, v, rfl, ha, q⟩ := h
  obtain ⟨u1, u2, rfl, ru1, ru2⟩ : ∃ u1 u2, us = [u1, u2] ∧ RelV (.ref a) u1 ∧ RelV v u2 := by
    cases r with
    | cons r1 r => cases r with
      | cons r2 r => cases r; exact ⟨_, _, rfl, r1, r2⟩
  obtain rfl : u1 = Value.ref a := ru1
  have KX : K.In s.heap := e0.mod.kin.keeps fun b o e => (e0.bs b o e).1
  have lim : s.heap.NoLimit := e0.mod.nolimit.keeps fun b o e => (e0.bs b o e).1
  refine ks_codeAny_call_defAt (fd := PySem.W.ksFn "__init__" qual params _ scope dV kV doc pm an (.ref cda) ct cc) (binds := [("self", .ref a), ("index", u2)]) hr.depth (KX _ _ lk) rfl lim (PySem.W.codeRec_of KX F.cd) rfl hb S.own (fun x hx => ?_) (fun h₁ hns kp => ?_) S.co S.gen S.kind
  · rcases List.mem_cons.mp hx with rfl | hx
    · exact S.slf
    · obtain rfl : x = (("index", u2) : Str × Value) := by simpa using hx
      exact S.idx
  show _root_.PySem.wpAt _ (A.deeper (PySem.W.ksEnv qual scope s.heap.objs.size fI (.ref cda) cc)) (.func _ (PySem.W.ksEnv qual scope s.heap.objs.size fI (.ref cda) cc)) (execs _ (PySem.W.ksEnv qual scope s.heap.objs.size fI (.ref cda) cc)) _ _ _
  have J : Inv (iCx P w K mg base qual scope fI cc (.ref cda) A outer s H) [] [some (.ref a), some v] H { s with heap := h₁, toks := s.toks + 2 } :=
    ini_begin S e0 hr.hd F.cell hns kp rfl ru2
  obtain ⟨ccl, cdd, cvs, ccs, file, tf, hcode, hvs, hfile⟩ := F.code
  obtain ⟨cl, cld, csl, hcell⟩ := F.cell
  obtain ⟨nm, qn, N, bs, bm, sn, sub, ab, col, dd, k0, k1, k2, k3, k5, hC, hbm⟩ := F.ox.cls
  have hcl : PySem.W.clsIn K C = some { name := nm, bases := bs, mro := .ref C :: bm, ns := N, qualname := qn, hasDict := true, slotNames := sn, subclasses := sub, abstract := ab, collection := col, hasDel := false } := by unfold PySem.W.clsIn; rw [hC] <;> rfl
  obtain ⟨pl, hM⟩ := hM s.heap.objs.size
  -- what is wanted behind the two rows
  have fin : ∀ (s2 : Shared), Inv (iCx P w K mg base qual scope fI cc (.ref cda) A outer s H) [] [some (.ref a), some v] H s2 →
      _root_.PySem.wpAt (model P w) (A.deeper (PySem.W.ksEnv qual scope s.heap.objs.size fI (.ref cda) cc)) (.func [.Expr (supE p0 p1 p2 p3 p4) p5, .Assign [.Attribute (.Name "self" p6) "index" p7] (.Name "index" p8) p9] (PySem.W.ksEnv qual scope s.heap.objs.size fI (.ref cda) cc))
        (execs [.Assign [.Attribute (.Name "self" p6) "index" p7] (.Name "index" p8) p9] (PySem.W.ksEnv qual scope s.heap.objs.size fI (.ref cda) cc)) (fun f s' => CR CX0 outer P w H s Q E (.ok (.ret (match f with | .ret v => v | _ => .none))) s')
        (fun e s' => wpAny (model P w) (A.deeper (PySem.W.ksEnv qual scope s.heap.objs.size fI (.ref cda) cc)) (leaving (PySem.W.ksEnv qual scope s.heap.objs.size fI (.ref cda) cc) e) (fun _ s'' => CR CX0 outer P w H s Q E (.error e) s'') (fun e' s'' => CR CX0 outer P w H s Q E (.error e') s'') s') s2 := fun s2 J2 => by
    have st := pss_one (ps_ost (X := iCx P w K mg base qual scope fI cc (.ref cda) A outer s H) (f := "index") (p' := p7) (pos := p9) (pe_var (i := 0) (x := "self") (pos := p6) rfl (.inl S.slf) (by decide) (by decide)) (pe_var (i := 1) (x := "index") (pos := p8) rfl (.inl S.idx) (by decide) (by decide)) (hS2 _))
    refine _root_.PySem.wpAt_of_wpAny (wpAny_mono (st.run [] s2 _ H { nx := fun _ H' => Q .non H', rt := Q } J2 ?_) (fun f s' hsp => ?_) fun _ _ z => z.elim)
    · exact ⟨v, rfl, .ref a, rfl, a, C, rfl, F.ox, F.fld, .inl ⟨ha, q⟩⟩
    · cases f with
      | next =>
        obtain ⟨σ', H', J', hq⟩ := hsp
        exact ⟨.non, H', J'.os, J'.bare, J'.base, J'.hok, rfl, hq⟩
      | ret u =>
        obtain ⟨v', σ', H', J', rv, hq⟩ := hsp
        exact ⟨v', H', J'.os, J'.bare, J'.base, J'.hok, rv, hq⟩
      | brk => obtain ⟨_, _, _, z⟩ := hsp; exact z.elim
      | cont => obtain ⟨_, _, _, z⟩ := hsp; exact z.elim
  refine ks_wpAt_execs_cons (ks_wpAt_Expr_any (ks_wpAt_MethodCall (pl := pl) ?_ hM) (hI _) (hS1 _))
  -- super()
  obtain ⟨t1, ho⟩ := exo_at J.hok ha
  have nac : a ≠ C := fun z => by
    have e1 := J.kIn _ _ hC
    rw [← z, ho] at e1
    have e2 := congrArg Obj.data (Option.some.inj e1)
    cases e2
  have inB := fun {b : Addr} {o : Obj} (e : K.lookup b = some o) => J.kIn b o e
  refine ks_wpAt_super_base (prog := P) (w := w) (env := PySem.W.ksEnv qual scope s.heap.objs.size fI (.ref cda) cc) (f := fI) (cc := cda) (ar := ar) S.sup S.cls (by decide) rfl (inB lk) rfl har rfl (inB hcode) rfl hvs hfile F.top ?_
  obtain ⟨mb, hmb, hbb⟩ := J.mod.blt
  obtain ⟨mL, hnL, hlL⟩ := J.loc
  refine PySem.W.ks_loadName_global S.kind S.sup (loadGlobal_builtin (env := PySem.W.ksEnv qual scope s.heap.objs.size fI (.ref cda) cc) (J.mod.glob.keeps J.bk) F.sup (hmb.keeps J.bk) ((hbb _ (by decide)).trans (by decide +kernel)) ⟨rfl, ?_⟩)
  refine wpAny_loadName_free S.kind S.cls rfl ⟨_, inB hcell, rfl⟩ ?_
  rw [hself]
  refine wpAny_loadName_local S.kind S.slf hns (v := .ref a) rfl ?_
  refine ks_wpAny_isType_cls (inB hC) rfl ⟨rfl, ?_⟩
  refine ks_wpAny_call_super (inB hC) rfl ho rfl (fun c e => by cases e) (PySem.W.looks_mroIn J.kIn F.sub) (fun h2 e2 k2 => ?_)
  have J2 : Inv (iCx P w K mg base qual scope fI cc (.ref cda) A outer s H) [] [some (.ref a), some v] H ⟨h2, s.gens, s.drawn, s.toks + 2, s.os⟩ := J.kept (t' := s.toks + 2) k2
  -- its __init__
  have I2 : PySem.W.InstAt h2 a { cls := .ref C, dict := none, data := .fields #[.ref t1, .none, .none, .none, .bool false, .none] } C none := ⟨k2 _ _ ho, rfl, rfl, trivial⟩
  have hI2 : PySem.W.Looks (model P w) h2 (isInstance (.ref a) (.type "ValueError")) true := I2.type.andThen (PySem.W.looks_subIn J2.kIn F.isv)
  have hini := F.ini
  unfold PySem.W.ks_superIn at hini
  rw [hcl] at hini
  refine PySem.W.kxs_getMethod (g := s.gens) (d := s.drawn) (t := s.toks + 2) (os := s.os) PySem.W.kxs_ValueError e2 (PySem.W.looks_opaque J2.kIn F.opq) (l₀ := .ref C :: bm) (fun A Q E s k q => wpAny_bind ((PySem.W.looks_clsIn J2.kIn hcl) A _ E s k (wpAny_pure q))) rfl J2.kIn hini hI2 nac (by decide) ?_
  have J3 := J2.kept (t' := s.toks + 2 + 1) (h' := h2.push (PySem.W.kxs_mw "ValueError.__init__" a)) fun b o e => Heap.get?_push_of_some _ e
  have hu3 := Heap.get?_push_size h2 (o := PySem.W.kxs_mw "ValueError.__init__" a) rfl
  show wpAny _ _ (callWith p4 (.ref h2.objs.size) [] (backTo p4 (starEach [.Name "index" p3] _)) []) _ _ _
  have he4 : starEach [.Name "index" p3] (PySem.W.ksEnv qual scope s.heap.objs.size fI (.ref cda) cc) = (false, eval (.Name "index" p3) (PySem.W.ksEnv qual scope s.heap.objs.size fI (.ref cda) cc)) :: starEach [] (PySem.W.ksEnv qual scope s.heap.objs.size fI (.ref cda) cc) := rfl
  refine PySem.W.kxs_callWith (i := "ValueError.__init__") (x := a) (by rfl) ?_
  rw [he4]
  refine evalArgs_plain ?_
  have nU : H h2.objs.size = none := J2.hok.fresh (Nat.le_refl _)
  have J3' := J3.pins_of (pins' := [(h2.objs.size, PySem.W.kxs_mw "ValueError.__init__" a)]) fun p hp => by
    obtain rfl : p = (h2.objs.size, PySem.W.kxs_mw "ValueError.__init__" a) := by simpa using hp
    exact ⟨hu3, nU, Nat.ne_of_gt J2.lt, J2.nofs (Nat.le_refl _), fun v z => by cases z⟩
  have hpa := (pa_cons (X := iCx P w K mg base qual scope fI cc (.ref cda) A outer s H) (pe_var (i := 1) (x := "index") (pos := p3) rfl (.inl S.idx) (by decide) (by decide)) pa_nil he4)
  refine wpAny_mono (hpa.run p4 _ _ [some (.ref a), some v] H (fun vs H1 => vs = [v] ∧ H1 = H) J3' ⟨v, rfl, rfl, rfl⟩) (fun us' s4 hu4 => ?_) fun _ _ z => (show False from z).elim
  obtain ⟨vs4, H4, J4, r4, rfl, e4⟩ := hu4
  rw [e4] at J4
  have hu := (J4.pin (h2.objs.size, PySem.W.kxs_mw "ValueError.__init__" a) (by simp)).1
  refine ⟨hu, ?_⟩
  have hlen : us'.length ≤ sizeLine := by
    rw [← Paired.length r4, sizeLine_eq]
    show 1 ≤ _
    omega
  obtain ⟨t4, ho4⟩ := exo_at J4.hok ha
  have hC4 := J4.kIn _ _ hC
  have FB := PySem.F.excBase_ValueError
  obtain ⟨hh, g, d, tk, os⟩ := s4
  show wpAny _ _ (call (.ref h2.objs.size) us') _ _ _
  refine wpAny_call (codeAny_of_tree ?_)
  show wpAny _ (Around.in1 _) (callAny (.ref h2.objs.size) ⟨us', []⟩) _ _ _
  simp only [callAny]
  refine wpAny_bind (wpAny_load hu ?_)
  simp only [PySem.W.kxs_mw, show (Value.type "method-wrapper" == Value.type "method" || Value.type "method-wrapper" == Value.type "builtin_function_or_method" || Value.type "method-wrapper" == Value.type "method-wrapper") = true by decide, if_true]
  refine PySem.W.KFB.if_so (by decide) ?_
  refine wpAny_bind (PySem.W.check_bound_init FB.toExcCallFacts hC4 ho4 rfl ?_)
  refine wpAny_bind (wpAny_pure (wpAny_pure ?_))
  refine ⟨plainId_quiet FB.init.plain _, codeAny_builtin FB.initEntry ?_⟩
  refine PySem.W.exc_init_tree (cls := .ref C) (t0 := t4) (dv := none) (c2 := .none) (c3 := .none) (b4 := .bool false) ho4 hlen fun h5 k5' e5 _ => ?_
  have J5 := J4.write (t' := tk) (x := a) (e := a) (o := exo a C none) (h' := h5) (by rw [ha]; exact True.intro) (.inl rfl) k5' ⟨_, e5⟩ (exo_ok e5)
  have eu : upd H a (exo a C none) = H := by
    funext b
    by_cases hb : b = a
    · rw [hb, upd_same, ha]
    · rw [upd_ne hb]
  rw [eu] at J5
  exact fin _ (J5.pins_of (pins' := []) fun p hp => nomatch hp)
end
end Dl
end
section
set_option Elab.async false
set_option linter.all false
set_option maxRecDepth 100000
set_option maxHeartbeats 4000000
namespace Dl
open PySem PySem.Spec PySem.Calls PyProof.Rows L2 StX RZ HotX
/-! raise C(e), C an own error with an index -/
def tIni (C : Addr) (te : TE) : L2.St → Hp → XK → Prop := fun σ H Q => te σ H fun v H1 => ∀ dd, H1 dd = none → Q (.ref C) (some dd) (upd H1 dd (.xd [("index", v)]))
theorem pmk_ini {X : Cx} {x : Str} {C fI : Addr} {k : Nat} {fd : FuncData} {ps : List Str} {e : Expr} {te : TE} {p pos : Pos} (T : OexC X.K C) (iC : PySem.W.findIn X.K (.ref C) "__init__" = some (some (.ref fI))) (tI : PySem.W.typeIn X.K (.ref fI) = some (.type "function"))
    (F1 : FnOk X.prog X.w X.K X.mg X.base CX0 k fI fd ps (spIni C)) (hr : Room (k + 1) X.A) (hb : Binds X.K fd ps []) (hg : Gl X x) (hm : X.mg x = some (.ref C)) (ha : PE X e te)
    (hdb : (x == ("__debug__" : Str)) = false := by decide) (he : starEach [e] X.env = (false, eval e X.env) :: starEach [] X.env := by rfl) (hpl : (backTo pos (starEach [] X.env)).any (fun z => z.1) = false := by rfl) :
    L2N.PMk X (.Call (.Name x p) [e] [] pos) (tIni C te) := by
  intro pins s σ H Q I h
  obtain ⟨nm, q, N, bs, bm, sn, sub, ab, col, dd, k0, k1, k2, k3, k5, hC, hbm⟩ := T.cls
  refine wpAny_Call_Name_kw (ld_glob I hg hm ?_ hdb)
  refine PySem.W.callWith_K (h₀ := X.base) I.ok.mod.kin T.kC (thn ((pa_cons ha pa_nil he).run pos pins s σ H (one1 fun v H1 => ∀ dd, H1 dd = none → Q (.ref C) (some dd) (upd H1 dd (.xd [("index", v)]))) I h) fun us s1 hu => ?_) he hpl
  · obtain ⟨vs, H1, I1, r1, hu⟩ := hu
    obtain ⟨v, rfl, q1⟩ : ∃ v, vs = [v] ∧ ∀ dd, H1 dd = none → Q (.ref C) (some dd) (upd H1 dd (.xd [("index", v)])) := by
      unfold one1 at hu
      split at hu
      · exact ⟨_, rfl, hu⟩
      · exact hu.elim
    refine ⟨I1.kIn, ?_⟩
    obtain ⟨u, rfl, ru⟩ : ∃ u, us = [u] ∧ RelV v u := by
      cases r1 with
      | cons a b => cases b; exact ⟨_, rfl, a⟩
    show wpAny _ _ (call (.ref C) [u]) _ _ _
    obtain ⟨hp, g, dr, tk, os⟩ := s1
    -- the new error's place
    have le1 : hp.objs.size ≤ hp.objs.size + 1 := Nat.le_succ _
    have n1 : H1 (hp.objs.size + 1) = none := I1.hok.fresh le1
    have kk : ∀ b o, hp.get? b = some o → ((hp.push (PySem.W.kdv_tup [u])).push (PySem.HandSPX.excO C hp.objs.size)).get? b = some o := fun b o e => Heap.get?_push_of_some _ (Heap.get?_push_of_some _ e)
    have ha2 : ((hp.push (PySem.W.kdv_tup [u])).push (PySem.HandSPX.excO C hp.objs.size)).get? (hp.objs.size + 1) = some (PySem.HandSPX.excO C hp.objs.size) := by heap_get
    have I2 := I1.laid (t' := tk) (a := hp.objs.size + 1) (o := exo (hp.objs.size + 1) C none) (h' := (hp.push (PySem.W.kdv_tup [u])).push (PySem.HandSPX.excO C hp.objs.size)) kk le1 (exo_ok ha2)
    have hsp : spIni C [.ref (hp.objs.size + 1), v] (upd H1 (hp.objs.size + 1) (exo (hp.objs.size + 1) C none)) (fun w H2 => w = .non ∧ ∃ dx, H1 dx = none ∧ dx ≠ hp.objs.size + 1 ∧ H2 = upd (upd (upd H1 (hp.objs.size + 1) (exo (hp.objs.size + 1) C none)) dx (exd dx [("index", v)])) (hp.objs.size + 1) (exo (hp.objs.size + 1) C (some dx))) E0 :=
      ⟨_, v, rfl, upd_same, fun dx n ne => ⟨rfl, dx, by rw [upd_ne ne] at n; exact n, ne, rfl⟩⟩
    have hl : ([.ref (hp.objs.size + 1), u] : List Value).length = ps.length := by
      have z := F1.len _ _ _ _ hsp
      exact z
    refine wpAny_call (PySem.HandSPX.call_own PySem.F.excBase_ValueError (fun Y => PySem.HandSPX.refsVE_contains Y bm hbm) (I1.kIn _ _ hC) (PySem.W.looks_findIn I1.kIn iC) (fun self => PySem.W.bind_fn I1.kIn self tI) (by show 1 ≤ sizeLine; rw [sizeLine_eq]; omega)
      (codeAny_mono (F1.run _ X.stack _ _ ⟨[.ref (hp.objs.size + 1), u], []⟩ [.ref (hp.objs.size + 1), u] [.ref (hp.objs.size + 1), v] _ E0 (hr.make C [u] []) (I2.env0.make C [u] []) (by have z := hb ⟨(hp.push (PySem.W.kdv_tup [u])).push (PySem.HandSPX.excO C hp.objs.size), g, dr, tk, os⟩ [.ref (hp.objs.size + 1), u] I2.kIn hl; exact z) (.cons rfl (.cons ru .nil)) hsp) fun r s' hq => ?_))
    cases r with
    | error er => exact (show False from hq).elim
    | ok fl =>
      cases fl with
      | next => exact False.elim hq
      | brk => exact False.elim hq
      | cont => exact False.elim hq
      | ret w =>
        obtain ⟨v2, H2, os2, bare2, un2, hok2, rv, rfl, dx, hn, hne, rfl⟩ := hq
        obtain ⟨h2, g2, d2, t2, os'⟩ := s'
        have e1 : (upd (upd (upd H1 (hp.objs.size + 1) (exo (hp.objs.size + 1) C none)) dx (exd dx [("index", v)])) (hp.objs.size + 1) (exo (hp.objs.size + 1) C (some dx))) dx = some (exd dx [("index", v)]) := by rw [upd_ne hne, upd_same]
        obtain ⟨t0, G, J, kG, ge, hoe, na⟩ := mk_end0 (d2 := d2) (t2 := t2) I1 le1 kk un2 hok2 os2 bare2 upd_same e1 hn
        have eH : upd (del (upd (upd (upd H1 (hp.objs.size + 1) (exo (hp.objs.size + 1) C none)) dx (exd dx [("index", v)])) (hp.objs.size + 1) (exo (hp.objs.size + 1) C (some dx))) (hp.objs.size + 1)) dx (.xd [("index", v)]) = upd H1 dx (.xd [("index", v)]) := by
          funext b
          by_cases h1 : b = dx
          · rw [h1, upd_same, upd_same]
          · rw [upd_ne h1, upd_ne h1]
            by_cases h3 : b = hp.objs.size + 1
            · rw [h3, del_same, n1]
            · rw [del_ne h3, upd_ne h3, upd_ne h1, upd_ne h3]
        rw [eH] at J na
        exact ⟨rv, _, _, _, ⟨G, g2, d2, t2, os'⟩, _, .ref C, some dx, rfl, J, kG, ge, hoe, ⟨rfl, rfl, fun vs z => by cases z; rfl⟩, rfl, rfl, na, rfl, bare2, raises_own T.exC T.tyC, q1 dx hn⟩
/-- raise C(e), where nothing is handled -/
def dxRaise1 (nm : Str) (de : Dn) : Dxs := fun ρ s => (de ρ s).map fun p => (.xc ⟨nm, some p.1⟩ ρ, p.2)
theorem sx_raise1 {K : Kx} {W : WX} {nm : Str} {te : TE} {de : Dn} (h1 : SndE K te de) : SndX K W (fun _ σ H => tIni (He.ga K.f nm) te σ H fun cls d H' => W cls d σ H') (dxRaise1 nm de) := fun c I0 H0 I H σ ρ s o s' e h D q => by
  obtain ⟨⟨x, s1⟩, ha, h⟩ := map_some_of h
  cases h
  refine h1 _ _ _ _ _ _ _ _ e.env ha _ fun v I1 H1 g1 w1 r1 => fun dd hn => ?_
  have g2 := Gr.new (o := .xd [("index", v)]) g1.s2 hn
  have w2 := w1.gr g2
  exact q σ _ _ _ _ ((e.grow g1 w1).grow g2.up w2) ⟨rfl, .inr ⟨x, dd, v, rfl, rfl, upd_same, r1.mono g2.s1⟩⟩
theorem ex_raise1 {X : Cx} {W : WX} {cx : Str} {fI : Addr} {k : Nat} {fd : FuncData} {ps : List Str} {e : Expr} {te : TE} {de : Dn} {p1 p2 pos : Pos} (hc : X.calm = true) (tk : L2N.Takes X W) (T : OexC X.K (He.ga X.K cx)) (iC : PySem.W.findIn X.K (.ref (He.ga X.K cx)) "__init__" = some (some (.ref fI))) (tI : PySem.W.typeIn X.K (.ref fI) = some (.type "function"))
    (F1 : FnOk X.prog X.w X.K X.mg X.base CX0 k fI fd ps (spIni (He.ga X.K cx))) (hr : Room (k + 1) X.A) (hb : Binds X.K fd ps []) (hg : Gl X cx) (hm : X.mg cx = some (.ref (He.ga X.K cx))) (ha : EE X e te de)
    (hdb : (cx == ("__debug__" : Str)) = false := by decide) (he : starEach [e] X.env = (false, eval e X.env) :: starEach [] X.env := by rfl) (hpl : (backTo p2 (starEach [] X.env)).any (fun z => z.1) = false := by rfl) :
    EX X W (.Raise (some (.Call (.Name cx p1) [e] [] p2)) none pos) (fun _ σ H => tIni (He.ga X.K cx) te σ H fun cls d H' => W cls d σ H') (dxRaise1 cx de) :=
  ⟨L2N.ps_raise hc tk (pmk_ini T iC tI F1 hr hb hg hm ha.p hdb he hpl), sx_raise1 (K := X.kx) ha.s⟩
end Dl
end
section
set_option Elab.async false
set_option linter.all false
set_option maxRecDepth 100000
set_option maxHeartbeats 4000000
namespace Dl
open PySem PySem.Spec PySem.Calls PyProof.Rows L2 StX RZ HotX L2H
/-! raise C() from e, e the error that is handled -/
def causeH (h : Heap) (a : Addr) (cv : Value) : Heap := (h.update a (Obj.mapFields (·.setIfInBounds 3 cv))).update a (Obj.mapFields (·.setIfInBounds 4 (.bool true)))
theorem causeH_at {h : Heap} {a : Addr} {oe : Obj} {vs : Array Value} {cv : Value} (ha : h.get? a = some oe) (hd : oe.data = .fields vs) :
    (causeH h a cv).get? a = some ((oe.mapFields (·.setIfInBounds 3 cv)).mapFields (·.setIfInBounds 4 (.bool true))) ∧ ((oe.mapFields (·.setIfInBounds 3 cv)).mapFields (·.setIfInBounds 4 (.bool true))).data = .fields ((vs.setIfInBounds 3 cv).setIfInBounds 4 (.bool true)) := by
  have d3 := Obj.data_mapFields hd (·.setIfInBounds 3 cv)
  have d4 := Obj.data_mapFields d3 (·.setIfInBounds 4 (.bool true))
  exact ⟨Heap.get?_update_self _ (Heap.get?_update_self _ ha (Obj.isFreed_of_fields d3)) (Obj.isFreed_of_fields d4), d4⟩
theorem causeH_ne {h : Heap} {a b : Addr} {cv : Value} (n : a ≠ b) : (causeH h a cv).get? b = h.get? b := by
  unfold causeH
  rw [Heap.get?_update_other _ _ n, Heap.get?_update_other _ _ n]
theorem raise_from {prog : Program} {w : World} {A : Around} {E : Value → Shared → Prop} {env : Env} {s : Shared} {x c : Sem Value} {Q : Flow → Shared → Prop} {x1 : Addr}
    (h : wpAny (model prog w) A x (fun v s₁ => wpAny (model prog w) A c (fun cv s₂ => ∃ a oe vs cls o1 vs1 cls1, v = .ref a ∧ cv = .ref x1 ∧ s₂.heap.get? a = some oe ∧ oe.cls = cls ∧ oe.data = .fields vs ∧ vs[1]? = some .none ∧ 4 < vs.size ∧ x1 ≠ a ∧
      A.handled = some (.ref x1) ∧ s₂.heap.get? x1 = some o1 ∧ o1.data = .fields vs1 ∧ vs1[2]? = some .none ∧ o1.cls = cls1 ∧ PySem.W.Looks (model prog w) s₂.heap (isSubtype cls1 (.type "BaseException")) true ∧
      PySem.W.Looks (model prog w) s₂.heap (isSubtype cls (.type "BaseException")) true ∧ PySem.W.Looks (model prog w) (causeH s₂.heap a (.ref x1)) (typeOf cls) (.type "type") ∧
      E (.ref a) { s₂ with heap := (causeH s₂.heap a (.ref x1)).update a (Obj.mapFields (·.setIfInBounds 2 (.ref x1))) }) E s₁) E s) :
    wpAny (model prog w) A (raiseStmt env (some x) (some c)) Q E s := by
  unfold raiseStmt
  dsimp only
  refine wpAny_bind (wpAny_mono h (fun v s₁ h₁ => ?_) fun _ _ z => z)
  refine wpAny_bind (wpAny_holding (wpAny_mono h₁ (fun cv s₂ h₂ => wpAny_bind (wpAny_pure ?_)) fun _ _ z => z))
  obtain ⟨a, oe, vs, cls, o1, vs1, cls1, rfl, rfl, ha, hcls, hd, h1, hi, hne, hh, hx, dx, cx, ex, L0, L1, L3, hE⟩ := h₂
  have LT : PySem.W.Looks (model prog w) s₂.heap (typeOf (.ref a)) cls := fun A Q E s k q => wpAny_typeOf_ref (k _ _ ha) (by rw [hcls]; exact q)
  have LI : PySem.W.Looks (model prog w) s₂.heap (isInstance (.ref a) (.type "BaseException")) true := LT.andThen L1
  have LX : PySem.W.Looks (model prog w) s₂.heap (isInstance (.ref x1) (.type "BaseException")) true := PySem.W.Looks.andThen (fun A Q E s k q => wpAny_typeOf_ref (k _ _ hx) (by rw [ex]; exact q)) L0
  -- neither is a class
  have noT : ∀ {b : Addr} {ob : Obj} {ws : Array Value} {s0 : Shared} {Q' : Bool → Shared → Prop}, s0.heap.get? b = some ob → ob.data = .fields ws → Q' false s0 → wpAny (model prog w) A (isType (.ref b)) Q' E s0 := by
    intro b ob ws s0 Q' e1 e2 hq
    simp only [isType, loadHead]
    refine wpAny_bind (wpAny_loadPart e1 ?_)
    rw [e2]; exact wpAny_pure hq
  obtain ⟨ha4, hd4⟩ := causeH_at (cv := .ref x1) ha hd
  have d3 := Obj.data_mapFields hd (·.setIfInBounds 3 (Value.ref x1))
  have ha3 := Heap.get?_update_self (Obj.mapFields (·.setIfInBounds 3 (Value.ref x1))) ha (Obj.isFreed_of_fields d3)
  have s3 : 3 < vs.size := by omega
  have s4 : 4 < (vs.setIfInBounds 3 (Value.ref x1)).size := by rw [set_size]; exact hi
  have s2' : 2 < ((vs.setIfInBounds 3 (Value.ref x1)).setIfInBounds 4 (Value.bool true)).size := by rw [set_size, set_size]; omega
  have h14 : ((vs.setIfInBounds 3 (Value.ref x1)).setIfInBounds 4 (Value.bool true))[1]? = some Value.none := set_other (by decide) (set_other (by decide) h1)
  have LT4 : PySem.W.Looks (model prog w) (causeH s₂.heap a (.ref x1)) (typeOf (.ref a)) cls := fun A Q E s k q => wpAny_typeOf_ref (k _ _ ha4) (by rw [Obj.cls_mapFields, Obj.cls_mapFields, hcls]; exact q)
  have hot4 : HotAt A x1 (causeH s₂.heap a (.ref x1)) := ⟨hh, o1, vs1, by rw [causeH_ne (Ne.symm hne)]; exact hx, dx, cx⟩
  have rest : wpAny (model prog w) A (do
      let b ← isType (.ref a)
      if b = true then do
        let e ← holding [.ref a] (raisedFor (.ref a) (.ref a))
        setFlight e none
        raiseNew e
      else do
        let e ← raisedInstance (.ref a)
        setFlight e none
        raiseNew e : Sem Flow) Q E { s₂ with heap := causeH s₂.heap a (.ref x1) } := by
    refine wpAny_bind (noT (s0 := { s₂ with heap := causeH s₂.heap a (.ref x1) }) ha4 hd4 ?_)
    simp only [Bool.false_eq_true, if_false]
    unfold raisedInstance
    refine wpAny_bind (wpAny_bind (LT4.here (wpAny_bind (L3.here ?_))))
    rw [if_pos (beq_self_eq_true _)]
    refine wpAny_pure ?_
    unfold setFlight
    refine wpAny_bind (wpAny_bind (wpAny_field ha4 hd4 h14 ?_))
    rw [if_neg (by decide)]
    refine wpAny_pure ?_
    exact raiseNew_hot hot4 hne ha4 hd4 s2' hE
  dsimp only
  refine wpAny_bind (wpAny_holding ?_)
  unfold excFromValue isExcClass
  refine wpAny_bind (wpAny_bind (noT ha hd ?_))
  simp only [Bool.false_eq_true, if_false]
  refine wpAny_pure ?_
  simp only [Bool.false_eq_true, if_false]
  refine wpAny_bind (LI.here ?_)
  simp only [if_true]
  refine wpAny_pure ?_
  have nb : (Value.ref x1 == Value.none) = false := rfl
  simp only [nb, Bool.false_eq_true, if_false]
  refine wpAny_bind (wpAny_holding (wpAny_bind (wpAny_bind (noT hx dx ?_))))
  simp only [Bool.false_eq_true, if_false]
  refine wpAny_pure ?_
  simp only [Bool.false_eq_true, if_false]
  refine wpAny_bind (LX.here ?_)
  simp only [if_true]
  refine wpAny_pure ?_
  refine wpAny_bind (wpAny_setField ha hd s3 (wpAny_bind (wpAny_setField ha3 d3 s4 ?_)))
  exact rest
section
variable {X : Cx}
/-- C(), its record with all its fields -/
theorem pmk5_own0 {C : Addr} {bmB : List Value} {B newId initId : String} {x : Str} {p pos : Pos} (F : ExcBaseFacts B newId initId bmB) (q : PySem.W.excIn X.K C bmB newId = true) (gC : X.mg x = some (.ref C)) (kC : PySem.W.keepIn X.K (.ref C) = true) (r : Raises X (.ref C)) (hg : Gl X x)
    (hdb : (x == ("__debug__" : Str)) = false := by decide) : PMk5 X (.Call (.Name x p) [] [] pos) (fun _ H Q => Q (.ref C) none H) := by
  intro pins s σ H Q I h
  refine wpAny_Call_Name_kw (ld_glob I hg gC ?_ hdb)
  refine PySem.W.callWith_K0 I.kIn kC ?_
  show wpAny _ _ (call (.ref C) []) _ _ _
  obtain ⟨bm, N, nm, qn, bs, hdct, sn, sub, ab, col, dd, k0, k1, k2, k3, k5, mN, hC, hN, hni, T⟩ := exc_obj I.kIn q
  refine wpAny_call_exc_subT F T hC hN hni (fun h' e hm => ?_) (by show 0 ≤ sizeLine; exact Nat.zero_le _)
  exact mk_of5 I hm r h (I.hok.gone hm.new)
/-- raise .. from n, n the error that is handled -/
theorem ps_raiseFE {W : WX} {e : Expr} {t : L2.St → Hp → XK → Prop} {n : Str} {i : Nat} {np pos : Pos} {p : Addr × Obj} {cls1 : Value} (hp : p ∈ X.pn) (hh : X.A.handled = some (.ref p.1)) (h1 : ∃ v1, p.2.data = .fields v1 ∧ v1[2]? = some .none) (hc1 : p.2.cls = cls1)
    (r1 : Raises X cls1) (tk : L2.Takes X W) (he : PMk5 X e t) (hN : X.N[i]? = some n) (hl : X.env.scope.names.lookup n = some .local) (hdb : (n == ("__debug__" : Str)) = false := by decide) :
    PS X (.Raise (some e) (some (.Name n np)) pos) (fun _ σ H => σ[i]? = some (some (.ref p.1)) ∧ t σ H fun cls d H' => W cls d σ H') := by
  refine ⟨fun pins s σ H D I h => ?_⟩
  obtain ⟨hs, h⟩ := h
  obtain ⟨v1, e1, c1⟩ := h1
  show wpAny _ _ (do standAt pos; raiseStmt X.env (some (do let v ← eval e X.env; standAt pos; pure v)) (some (do let v ← eval (.Name n np) X.env; standAt pos; pure v))) _ _ _
  refine wpAny_bind (wpAny_standAt (raise_from (x1 := p.1) (wpAny_bind (wpAny_mono (he pins s σ H _ I h) (fun u s1 hu => wpAny_bind (wpAny_standAt (wpAny_pure ?_))) fun _ _ x => x))))
  obtain ⟨⟨a, oe, vs, sI, H', cls, d, rfl, J, k, hne, ha, hz, hd, hv1, na, os, ag, r, q⟩, h5⟩ := hu
  have hi : 4 < vs.size := h5 a oe vs rfl ha hd
  have P1 := (J.pin p (List.mem_append_left _ hp)).1
  have nap : p.1 ≠ a := fun z => by rw [z, hne] at P1; cases P1
  obtain ⟨m, hn, hlk⟩ := J.loc
  obtain ⟨u, ru, lk⟩ := hlk i n _ hN hs (.inl hl)
  obtain rfl : u = Value.ref p.1 := ru
  have hm : m n = some (.ref p.1) := by
    rcases lk with ⟨_, z⟩ | ⟨z, _⟩
    · exact z
    · have z : X.env.scope.names.lookup n = some .cell ∨ X.env.scope.names.lookup n = some .free := z
      rw [hl] at z
      rcases z with z | z <;> cases z
  refine wpAny_bind (wpAny_Name (wpAny_loadName_local J.ok.kind hl (hn.keeps k) hm (wpAny_bind (wpAny_standAt (wpAny_pure ?_)))) hdb)
  have k4 : ∀ b o, sI.heap.get? b = some o → (causeH s1.heap a (.ref p.1)).get? b = some o := fun b o z => by
    have nab : a ≠ b := fun y => by rw [← y, hne] at z; cases z
    rw [causeH_ne nab]
    exact k b o z
  obtain ⟨ra, _⟩ := r (model X.prog X.w) s1.heap (J.kIn.keeps k)
  obtain ⟨_, rb⟩ := r (model X.prog X.w) (causeH s1.heap a (.ref p.1)) (J.kIn.keeps k4)
  obtain ⟨rx, _⟩ := r1 (model X.prog X.w) s1.heap (J.kIn.keeps k)
  obtain ⟨ha4, hd4⟩ := causeH_at (cv := .ref p.1) ha hd
  have h12 : (((vs.setIfInBounds 3 (Value.ref p.1)).setIfInBounds 4 (Value.bool true)).setIfInBounds 2 (Value.ref p.1))[1]? = some Value.none := set_other (by decide) (set_other (by decide) (set_other (by decide) hv1))
  refine ⟨a, oe, vs, cls, p.2, v1, cls1, rfl, rfl, ha, hz.1, hd, hv1, hi, nap, hh, k _ _ P1, e1, c1, hc1, rx, ra, rb, tk _ _ (XE.new J (fun b o z => ?_) hne (Heap.get?_update_self _ ha4 (Obj.isFreed_of_fields (Obj.data_mapFields hd4 _)))
    ⟨by rw [Obj.cls_mapFields, Obj.cls_mapFields, Obj.cls_mapFields]; exact hz.1, by rw [HandSPX.dict_mapFields, HandSPX.dict_mapFields, HandSPX.dict_mapFields]; exact hz.2.1⟩ (Obj.data_mapFields hd4 _) h12 na os ag q)⟩
  have nab : a ≠ b := fun y => by rw [← y, hne] at z; cases z
  show ((causeH s1.heap a (.ref p.1)).update a (Obj.mapFields (·.setIfInBounds 2 (.ref p.1)))).get? b = some o
  rw [Heap.get?_update_other _ _ nab]
  exact k4 b o z
end
end Dl
end
section
set_option Elab.async false
set_option linter.all false
set_option maxRecDepth 100000
set_option maxHeartbeats 4000000
namespace Dl
open PySem PySem.Spec PySem.Calls PyProof.Rows L2 StX RZ HotX L2H
/-! try: .. except C as n: a suite that raises out -/
section
variable {X : Cx} {pins : List (Addr × Obj)} {σ : L2.St} {H : Hp} {s : Shared}
/-- objects of ours that none holds are left out -/
theorem inv_less (I : Inv X pins σ H s) {G : Heap} {D : List Addr} (g1 : ∀ b, b ∉ D → G.get? b = s.heap.get? b) (h0 : ∀ b ∈ D, X.s_0.heap.get? b = none) (hH : ∀ b ∈ D, H b = none) (hL : X.env.locals ∉ D) (hc : ∀ x c, X.env.cells.lookup x = some c → c ∉ D) (hp : ∀ p ∈ X.pn ++ pins, p.1 ∉ D) :
    Inv X pins σ H { s with heap := G } := by
  have old : ∀ {b : Addr} {o : Obj}, X.s_0.heap.get? b = some o → G.get? b = s.heap.get? b := fun {b o} e => g1 b fun z => by rw [h0 b z] at e; cases e
  have trk : ∀ {b : Addr} {o : HO}, H b = some o → b ∉ D := fun {b o} e z => by rw [hH b z] at e; cases e
  obtain ⟨m, ⟨oL, es, ep, hL1, hL2⟩, hl⟩ := I.loc
  have cells : ∀ {x c v}, X.env.cells.lookup x = some c → s.heap.IsCell c v → G.IsCell c v := fun {x c v} e ⟨o, ho, hd⟩ => ⟨o, (g1 c (hc x c e)).trans ho, hd⟩
  refine ⟨I.ok, I.os, I.bare, ⟨fun b o e n hb hx => (old e).trans (I.base.keep b o e n hb hx), fun b o e n hb hx => ?_, I.base.free, fun b o e hx => ?_, I.base.tups, I.base.frzs, I.base.tbls⟩, ⟨m, ⟨oL, es, ep, (g1 _ hL).trans hL1, hL2⟩, fun i x v e1 e2 e3 => ?_⟩, fun x c e => ?_, I.free, I.freeC, fun p hq => ?_, fun b u e => ?_, I.len⟩
  · obtain ⟨sl, q⟩ := I.base.slot b o e n hb hx
    exact ⟨sl, (old e).trans q⟩
  · obtain ⟨o', q⟩ := I.base.there b o e hx
    exact ⟨o', (old e).trans q⟩
  · obtain ⟨u, r, q⟩ := hl i x v e1 e2 e3
    refine ⟨u, r, q.imp id fun ⟨k, c, e, z⟩ => ⟨k, c, e, cells e z⟩⟩
  · obtain ⟨v, z⟩ := I.cell x c e
    exact ⟨v, cells e z⟩
  · obtain ⟨e, r⟩ := I.pin p hq
    exact ⟨(g1 _ (hp p hq)).trans e, r⟩
  · exact (I.hok b u e).stay (fun c v h q => (g1 c (by rcases h with rfl | h; exact trk e; exact trk h)).trans q) (fun _ q => q) fun _ _ q => q
end
/-- the suite's context, with what is wished of an exception that leaves it -/
abbrev suiteY (X : Cx) (a : Addr) (pn : List (Addr × Obj)) (xe : Value → Shared → Prop) : Cx := { X with A := X.A.mark (some (.ref a)), calm := false, pn := pn, xe := xe }
/-- an exception that leaves the suite: noted, the name gone, passed on -/
def goneX (X : Cx) (A' : Around) (n : Str) (pos : Pos) : Value → Shared → Prop := fun x s₃ =>
  wpAny (model X.prog X.w) A' (noteFrame x X.env) (fun _ s₃' => wpAny (model X.prog X.w) A' (do bindName X.env n .none; unbindBehindTheSuite X.env n pos)
    (fun _ s₄ => wpAny (model X.prog X.w) A' (passOn "try.except-as" x X.env : Sem Flow) (fun _ _ => False) (notedBy (model X.prog X.w) A' X.env (cameBackBy (model X.prog X.w) X.A X.env X.xe)) s₄)
    (fun y s₄ => wpAny (model X.prog X.w) A' (setFlight x none) (fun _ s₅ => (notedBy (model X.prog X.w) A' X.env (cameBackBy (model X.prog X.w) X.A X.env X.xe)) y s₅) (notedBy (model X.prog X.w) A' X.env (cameBackBy (model X.prog X.w) X.A X.env X.xe)) s₄) s₃')
    (notedBy (model X.prog X.w) A' X.env (cameBackBy (model X.prog X.w) X.A X.env X.xe)) s₃
section
variable {X : Cx} {pins : List (Addr × Obj)} {n : Str} {i : Nat} {pos : Pos} {Wout : WX}
theorem unsuiteY {a : Addr} {q : Addr × Obj} {pn' : List (Addr × Obj)} {xe : Value → Shared → Prop} {σ : L2.St} {H : Hp} {s : Shared} (I : Inv (suiteY X a (q :: (X.pn ++ pins)) xe) pn' σ H s) (ok : X.Ok) : Inv X pins σ H s :=
  Inv.unsuite (X := X) (a := a) (q := q) (pn' := pn') (show Inv (X.suite a (q :: (X.pn ++ pins))) pn' σ H s from I.wish fun _ _ => False) ok
theorem gone_takes (hs : X.stack = X.env :: X.outer) (hf : X.env.frame = some X.env.locals) (hex : X.ex = []) (hN : X.N.Nodup) (hi : X.N[i]? = some n) (hln : X.env.kindOf n = some .local) (hpa : ∀ hd : Option Value, PassesOwnAt (model X.prog X.w) (X.A.mark hd) X.A X.env X.xe) (tk : L2.Takes X Wout) (ok : X.Ok) {a : Addr} {oe : Obj} {hd : Option Value} :
    L2.Takes (suiteY X a ((a, oe) :: (X.pn ++ pins)) (goneX X (X.A.mark hd) n pos)) (fun cls d σ H => Wout cls d (σ.set i none) H) := fun u s₃ x => by
  obtain ⟨a2, B, sI, pn', σ', H', cls, d, rfl, J', nb, up, sky, na, os, ag, w⟩ := x
  have J : Inv X pins σ' H' sI := unsuiteY J' ok
  have hfr : (X.A.mark hd).frames = some (X.env :: X.outer) := by rw [← hs]; exact ok.frames
  have sky' : Sky B (X.env :: X.outer) a2 (Zc cls d) X.env.locals s₃.heap := by rw [← hs]; exact sky
  have nb' : ∀ b o, sI.heap.get? b = some o → b ∉ frs X.stack → B.get? b = some o := nb
  -- behind the note
  have next : ∀ h1, HandSPX.HeldZ B (X.env :: X.outer) a2 (Zc cls d) X.env.locals h1 → s₃.heap.UpToSlots h1 →
      wpAny (model X.prog X.w) (X.A.mark hd) (do bindName X.env n .none; unbindBehindTheSuite X.env n pos)
        (fun _ s₄ => wpAny (model X.prog X.w) (X.A.mark hd) (passOn "try.except-as" (.ref a2) X.env : Sem Flow) (fun _ _ => False) (notedBy (model X.prog X.w) (X.A.mark hd) X.env (cameBackBy (model X.prog X.w) X.A X.env X.xe)) s₄)
        (fun y s₄ => wpAny (model X.prog X.w) (X.A.mark hd) (setFlight (.ref a2) none) (fun _ s₅ => (notedBy (model X.prog X.w) (X.A.mark hd) X.env (cameBackBy (model X.prog X.w) X.A X.env X.xe)) y s₅) (notedBy (model X.prog X.w) (X.A.mark hd) X.env (cameBackBy (model X.prog X.w) X.A X.env X.xe)) s₄) { s₃ with heap := h1 } := fun h1 hh up1 => by
    obtain ⟨hB, hn, hF, oe2, vs, T, oT, ts, he, hz, hd2, hv1, hnT, hTe, hT, hdT, h3⟩ := hh
    have J1 : Inv X pins σ' H' { s₃ with heap := h1 } := J.landed (s' := { s₃ with heap := h1 }) nb' hB (up.trans up1) os ag
    -- neither the error nor its trace is a thing of ours
    have fresh : ∀ {b : Addr} {o : Obj} {ws : Array Value}, B.get? b = none → h1.get? b = some o → o.data = .fields ws → sI.heap.get? b = none ∧ b ∉ frs X.stack := fun {b o ws} e1 e2 e3 => by
      have nf : b ∉ frs X.stack := fun hm => by
        rw [hs] at hm
        obtain ⟨_, o', e', hnf⟩ := hF.mem hm
        rw [e2] at e'; cases e'
        exact hnf _ e3
      refine ⟨?_, nf⟩
      cases q : sI.heap.get? b with
      | none => rfl
      | some o' => rw [nb' b o' q nf] at e1; cases e1
    obtain ⟨fa, nfa⟩ := fresh hn he hd2
    obtain ⟨fT, nfT⟩ := fresh hnT hT hdT
    have off : ∀ {b : Addr}, sI.heap.get? b = none → b ∉ frs X.stack → H' b = none ∧ b ≠ X.env.locals ∧ b ∉ X.fs ∧ X.s_0.heap.get? b = none ∧ (∀ x c, X.env.cells.lookup x = some c → c ≠ b) ∧ ∀ p ∈ X.pn ++ pins, p.1 ≠ b := fun {b} e nf => by
      refine ⟨J.hok.gone e, fun z => nf ?_, fun z => nf ?_, ?_, fun x c hc z => ?_, fun p hp z => ?_⟩
      · rw [hs]; exact List.mem_filterMap.mpr ⟨X.env, List.mem_cons_self, by rw [hf, z]⟩
      · obtain ⟨e', he', q⟩ := List.mem_filterMap.mp z
        rw [hs]; exact List.mem_filterMap.mpr ⟨e', List.mem_cons_of_mem _ he', q⟩
      · cases q : X.s_0.heap.get? b with
        | none => rfl
        | some o =>
          obtain ⟨o', q'⟩ := J.base.there b o q (by rw [hex]; exact fun z => nomatch z)
          rw [e] at q'; cases q'
      · obtain ⟨v, o, ho, _⟩ := J.cell x c hc
        rw [z, e] at ho; cases ho
      · have q := (J.pin p hp).1
        rw [z, e] at q; cases q
    obtain ⟨a1, a2', a3, a4, a5, a6⟩ := off fa nfa
    obtain ⟨b1, b2, b3, b4, b5, b6⟩ := off fT nfT
    have J2 := J1.pins_of (pins' := [(a2, oe2), (T, oT)] ++ pins) fun p hp => by
      rcases List.mem_append.mp hp with hp | hp
      · rcases List.mem_cons.mp hp with rfl | hp
        · exact ⟨he, a1, a2', a3, fun v z => by rw [show oe2.data = _ from hd2] at z; cases z⟩
        · obtain rfl : p = (T, oT) := by simpa using hp
          exact ⟨hT, b1, b2, b3, fun v z => by rw [show oT.data = _ from hdT] at z; cases z⟩
      · exact J1.pin p (List.mem_append_right _ hp)
    refine gone_ok J2 hN hi hln fun s₄ J4 => ?_
    have e4 : s₄.heap.get? a2 = some oe2 := (J4.pin (a2, oe2) (List.mem_append_right _ (List.mem_append_left _ List.mem_cons_self))).1
    have T4 : s₄.heap.get? T = some oT := (J4.pin (T, oT) (List.mem_append_right _ (List.mem_append_left _ (List.mem_cons_of_mem _ List.mem_cons_self)))).1
    unfold PySem.passOn
    refine wpAny_bind (wpAny_field e4 hd2 hv1 ?_)
    rw [if_neg (show ¬ ((Value.ref T == Value.none) = true) from by simp)]
    have hsz3 : 3 < ts.size := (Array.getElem?_eq_some_iff.mp h3).1
    have dT5 := Obj.data_mapFields hdT (·.setIfInBounds 3 (rawInt X.env.locals))
    have T5 := Heap.get?_update_self (Obj.mapFields (·.setIfInBounds 3 (rawInt X.env.locals))) T4 (Obj.isFreed_of_fields dT5)
    have other : ∀ {b : Addr}, b ≠ T → (s₄.heap.update T (Obj.mapFields (·.setIfInBounds 3 (rawInt X.env.locals)))).get? b = s₄.heap.get? b := fun {b} hb => Heap.get?_update_other _ _ (Ne.symm hb)
    -- the state without the error and its trace
    obtain ⟨G, g1, g2⟩ := restrict s₄.heap fun b => decide (b ≠ a2 ∧ b ≠ T)
    have gE : ∀ b, b ∉ [a2, T] → G.get? b = s₄.heap.get? b := fun b hb => g1 b (decide_eq_true ⟨fun z => hb (by simp [z]), fun z => hb (by simp [z])⟩)
    have gN : ∀ b, b ∈ [a2, T] → G.get? b = none := fun b hb => g2 b (by
      rcases List.mem_cons.mp hb with rfl | hb
      · simp
      · obtain rfl : b = T := by simpa using hb
        simp)
    have of4 : ∀ {b : Addr} {o : Obj}, G.get? b = some o → b ≠ a2 ∧ b ≠ T ∧ s₄.heap.get? b = some o := fun {b o} e => by
      have h1 : b ≠ a2 := fun z => by rw [gN b (by simp [z])] at e; cases e
      have h2 : b ≠ T := fun z => by rw [gN b (by simp [z])] at e; cases e
      exact ⟨h1, h2, by rw [← gE b (by simp [h1, h2])]; exact e⟩
    have J5 : Inv X pins (σ'.set i none) H' { s₄ with heap := G } := by
      refine inv_less (D := [a2, T]) (J4.pins_of (pins' := pins) fun p hp => J4.pin p (List.mem_append_right _ (List.mem_append_right _ hp))) gE (fun b hb => ?_) (fun b hb => ?_) (fun z => ?_) (fun x c hc z => ?_) (fun p hp z => ?_)
      all_goals simp only [List.mem_cons, List.mem_nil_iff, or_false] at *
      · rcases hb with rfl | rfl
        · exact a4
        · exact b4
      · rcases hb with rfl | rfl
        · exact a1
        · exact b1
      · rcases z with z | z
        · exact a2' z.symm
        · exact b2 z.symm
      · rcases z with z | z
        · exact a5 x c hc z
        · exact b5 x c hc z
      · rcases z with z | z
        · exact a6 p hp z
        · exact b6 p hp z
    have fin : wpAny (model X.prog X.w) (X.A.mark hd) (setFlight (.ref a2) X.env.frame) (fun _ s5 => wpAny (model X.prog X.w) (X.A.mark hd) (throw (.ref a2) : Sem Flow) (fun _ _ => False) (notedBy (model X.prog X.w) (X.A.mark hd) X.env (cameBackBy (model X.prog X.w) X.A X.env X.xe)) s5) (notedBy (model X.prog X.w) (X.A.mark hd) X.env (cameBackBy (model X.prog X.w) X.A X.env X.xe)) s₄ := by
      rw [hf]
      unfold setFlight
      refine wpAny_bind (wpAny_field e4 hd2 hv1 ?_)
      rw [if_pos (show (Value.ref T != Value.none) = true from by simp)]
      refine wpAny_setField T4 hdT hsz3 (wpAny_throw (hpa hd _ _ (tk _ _ ?_)))
      refine ⟨a2, PySem.W.hideAll G (frs X.stack), { s₄ with heap := G }, pins, σ'.set i none, H', cls, d, rfl, J5, fun b o e hb => PySem.W.hideAll_get _ e hb, Heap.UpToSlots.of_keeps fun b o e => ?_, .inr (.inr ⟨fun b o e => ?_, ?_, ?_, oe2, vs, T, _, _, (other (Ne.symm hTe)).trans e4, hz, hd2, hv1, ?_, hTe, T5, dT5, by simp [hsz3]⟩), a1, rfl, J4.bare, w⟩
      · obtain ⟨_, h2, h3⟩ := of4 e
        exact (other h2).trans h3
      · obtain ⟨_, h2, h3⟩ := of4 (PySem.W.of_hideAll _ e)
        exact (other h2).trans h3
      · cases q : (PySem.W.hideAll G (frs X.stack)).get? a2 with
        | none => rfl
        | some o => exact absurd rfl (of4 (PySem.W.of_hideAll _ q)).1
      · exact Heap.FunFrames.of_keeps (fun b o e _ => ⟨o, (by
          obtain ⟨_, h2, h3⟩ := of4 e
          exact (other h2).trans h3), rfl⟩) (funFrames_none J5.stack fun b hb => PySem.W.hideAll_none _ hb)
      · cases q : (PySem.W.hideAll G (frs X.stack)).get? T with
        | none => rfl
        | some o => exact absurd rfl (of4 (PySem.W.of_hideAll _ q)).2.1
    first
      | exact wpAny_bind (wpAny_pure (wpAny_bind fin))
      | exact wpAny_bind fin
  show wpAny _ _ (noteFrame (.ref a2) X.env) _ _ _
  rcases sky' with ⟨hB, hn, hl, oe2, vs, he, hz, hd2, h1⟩ | fl | hh
  · exact HandSPX.look_newZ Zc.steady hfr hl hf he hB hn hd2 h1 hz next
  · exact HandSPX.looks_onZ Zc.steady hfr hf fl next
  · exact HandSPX.againZ hf hh.2.2.2 (next s₃.heap hh (Heap.UpToSlots.refl _))
/-- try: .. except C as n: a suite that may raise -/
theorem ps_try_asX {x : Str} {c : Value} {body suite : List Stmt} {b₀ : Stmt} {np pos0 : Pos} {tb : WX → TS} {ts : Addr → Value → Option Addr → TS} (hs : X.stack = X.env :: X.outer) (hf : X.env.frame = some X.env.locals) (hex : X.ex = []) (hN : X.N.Nodup) (hi : X.N[i]? = some n) (hln : X.env.kindOf n = some .local) (hc : Names X x c)
    (hpa : ∀ hd : Option Value, PassesOwnAt (model X.prog X.w) (X.A.mark hd) X.A X.env X.xe) (tk : L2.Takes X Wout)
    (hb : ∀ (W : WX) (pn : List (Addr × Obj)) (xe : Value → Shared → Prop), L2N.Takes (X.tr pn xe) W → PassesOwn (model X.prog X.w) X.A X.env xe → PSs (X.tr pn xe) body (tb W))
    (hsu : ∀ (a : Addr) (oe : Obj) (cls : Value) (d : Option Addr) (pn : List (Addr × Obj)) (xe : Value → Shared → Prop), L2N.Zn cls d oe → (∃ vs, oe.data = .fields vs) → L2.Takes (suiteY X a ((a, oe) :: pn) xe) (fun cls d σ H => Wout cls d (σ.set i none) H) → PSs (suiteY X a ((a, oe) :: pn) xe) (b₀ :: suite) (ts a cls d)) :
    PS X (.Try body [.ExceptHandler (some (.Name x np)) (some n) (b₀ :: suite) pos] [] [] pos0) (fun D σ H => tb (wAs X.K c i ts (fun _ _ _ _ => False) D) D σ H) := by
  refine ⟨fun pins s σ H D I h => ?_⟩
  have ok := I.ok
  have hfr : X.A.frames = some (X.env :: X.outer) := by rw [ok.frames, hs]
  have hloc : Loc X.env.scope n := .inl hln
  refine wpAny_Try_except ?_
  refine wpAny_mono ((hb (wAs X.K c i ts (fun _ _ _ _ => False) D) (X.pn ++ pins) (fun e s₁ => wpAny (model X.prog X.w) X.A (noteFrame e X.env) (fun _ s₂ => wpAny (model X.prog X.w) X.A (setFlight e none) (fun _ s₃ =>
    wpAny (model X.prog X.w) X.A (handleBy e X.env [.ExceptHandler (some (.Name x np)) (some n) (b₀ :: suite) pos]) (SP X pins D) X.xe s₃) X.xe s₂) X.xe s₁) (fun u s' xx => ?_) PassesOwn.looking).run [] s σ H D (I.toTry _) h) (fun f s1 hsp => ?_) (fun e s1 he => he)
  · obtain ⟨a, B, sI, pins', σ', H', cls, d, rfl, J', nb, up, sky, na, os, ag, b, hb1, hyes, hno⟩ := xx
    have J : Inv X pins σ' H' sI := J'.ofTry ok
    have sky' : Sky B (X.env :: X.outer) a (L2N.Zn cls d) X.env.locals s'.heap := by rw [← hs]; exact sky
    show wpAny (model X.prog X.w) X.A (noteFrame (.ref a) X.env) _ _ _
    refine L2N.Sky.land L2N.Zn.steady hfr hf sky' fun h3 fl3 up3 => ?_
    have J3 : Inv X pins σ' H' { s' with heap := h3 } := J.landed nb fl3.1 (up.trans up3) os ag
    obtain ⟨oe3, vs3, he3, hz3, hd3⟩ := fl3.there
    have nfr : a ∉ frs (X.env :: X.outer) := fun hm => by
      obtain ⟨_, o', e', hnf⟩ := fl3.2.2.1.mem hm
      rw [he3] at e'; cases e'
      exact hnf _ hd3
    have nL : a ≠ X.env.locals := fun z => nfr (List.mem_filterMap.mpr ⟨X.env, List.mem_cons_self, by rw [hf, z]⟩)
    have nF : a ∉ X.fs := fun hm => by
      obtain ⟨e, he, q⟩ := List.mem_filterMap.mp hm
      exact nfr (List.mem_filterMap.mpr ⟨e, List.mem_cons_of_mem _ he, q⟩)
    have S3 := J3.suite he3 hd3 na nL nF
    refine wpAny_handleBy_cons (codeAny_handlers_test ?_) (by intro q; cases q)
    have LT : PySem.W.Looks (model X.prog X.w) h3 (typeOf (.ref a)) cls := fun A Q E s k q => wpAny_typeOf_ref (k _ _ he3) (by rw [hz3.1]; exact q)
    have LM := PySem.W.exm_one (M := model X.prog X.w) (J3.kIn) LT hb1
    have test : ∀ {Q : Value → Shared → Prop} {E : Value → Shared → Prop}, Q c { s' with heap := h3 } → wpAny (model X.prog X.w) (X.A.mark (some (.ref a))) (eval (.Name x np) X.env) Q E { s' with heap := h3 } := fun {Q E} q => by
      obtain ⟨hg, hdbg, hm | ⟨hm, hv, hnn⟩⟩ := hc
      · exact ld_glob (X := X.suite a ((a, oe3) :: (X.pn ++ pins))) S3 hg hm q hdbg
      · exact ld_blt (X := X.suite a ((a, oe3) :: (X.pn ++ pins))) S3 hg hm hv q hnn hdbg
    refine test (LM.here ?_)
    cases b with
    | false => exact (hno rfl).elim
    | true =>
      refine codeAny_handlers_suite_as ?_
      refine HandSPX.lands_againZ fl3 fun h4 fl4 up4 => ?_
      have J4 : Inv X pins σ' H' { s' with heap := h4 } := J.landed nb fl4.1 ((up.trans up3).trans up4) os ag
      obtain ⟨oe4, vs4, he4, hz4, hd4⟩ := fl4.there
      have S4 := J4.suite he4 hd4 na nL nF
      refine store_ok (X := X.suite a ((a, oe4) :: (X.pn ++ pins))) (v := .ref a) S4 hN hi hloc rfl (fun s5 S5 => ?_) (.inr hln)
      have S5' : Inv (suiteY X a ((a, oe4) :: (X.pn ++ pins)) (goneX X (X.A.mark (some (.ref a))) n pos)) [] (σ'.set i (some (.ref a))) H' s5 := S5.unwish (X := suiteY X a ((a, oe4) :: (X.pn ++ pins)) (goneX X (X.A.mark (some (.ref a))) n pos)) (E := fun _ _ => False)
      have tkS := gone_takes (pins := pins) (pos := pos) hs hf hex hN hi hln hpa tk ok (a := a) (oe := oe4) (hd := some (.ref a))
      refine wpAny_mono ((hsu a oe4 cls d (X.pn ++ pins) _ hz4 ⟨_, hd4⟩ tkS).run [] s5 _ H' _ S5' (hyes rfl a na)) (fun f s6 hsp => ?_) (fun e6 s6 z => z)
      have end_ : ∀ {σ6 : L2.St} {H6 : Hp} {Q : Shared → Prop}, Inv (suiteY X a ((a, oe4) :: (X.pn ++ pins)) (goneX X (X.A.mark (some (.ref a))) n pos)) [] σ6 H6 s6 → (∀ s7, Inv X pins (σ6.set i none) H6 s7 → Q s7) →
          wpAny (model X.prog X.w) X.A (do bindName X.env n .none; unbindBehindTheSuite X.env n pos) (fun _ s7 => Q s7) X.xe s6 := fun {σ6 H6 Q} S6 hq => gone_ok (unsuiteY S6 ok) hN hi hln hq
      cases f with
      | next =>
        obtain ⟨σ6, H6, S6, q6⟩ := hsp
        exact end_ S6 fun s7 J7 => ⟨_, _, J7, q6⟩
      | brk =>
        obtain ⟨σ6, H6, S6, q6⟩ := hsp
        exact end_ S6 fun s7 J7 => ⟨_, _, J7, q6⟩
      | cont =>
        obtain ⟨σ6, H6, S6, q6⟩ := hsp
        exact end_ S6 fun s7 J7 => ⟨_, _, J7, q6⟩
      | ret u =>
        obtain ⟨v6, σ6, H6, S6, r6, q6⟩ := hsp
        exact end_ S6 fun s7 J7 => ⟨_, _, _, J7, r6, q6⟩
  · cases f with
    | next =>
      obtain ⟨σ', H', J', q⟩ := hsp
      exact wpAny_execs_nil ⟨σ', H', J'.ofTry ok, q⟩
    | brk =>
      obtain ⟨σ', H', J', q⟩ := hsp
      exact ⟨σ', H', J'.ofTry ok, q⟩
    | cont =>
      obtain ⟨σ', H', J', q⟩ := hsp
      exact ⟨σ', H', J'.ofTry ok, q⟩
    | ret u =>
      obtain ⟨v, σ', H', J', r, q⟩ := hsp
      exact ⟨v, σ', H', J'.ofTry ok, r, q⟩
end
end Dl
end
section
set_option Elab.async false
set_option linter.all false
set_option maxRecDepth 100000
set_option maxHeartbeats 4000000
namespace Dl
open PySem PySem.Spec PySem.Calls PyProof.Rows L2 StX RZ HotX L2H
theorem EnvS.setU {K : Kx} {c : Option Addr} {I0 H0 I H : Hp} {σ : L2.St} {ρ : List Sl} {s : Tau} (e : EnvS K c I0 H0 I H σ ρ s) (i : Nat) (o : Option V) : EnvS K c I0 H0 I H (σ.set i o) (ρ.set i .un) s :=
  ⟨⟨e.env.sub, e.env.w, .set (.un o) i e.env.sl, e.env.uq.setI fun _ z => by cases z⟩, e.s0, e.kp, e.nw, fun j p d h1 h2 => by
    by_cases z : i = j
    · subst z
      rw [List.getElem?_set] at h2
      simp only [if_true] at h2
      split at h2 <;> cases h2
    · rw [List.getElem?_set_ne z] at h1 h2
      exact e.fr j p d h1 h2, e.nc⟩
/-- try: f(..) except C1 as n: raise C2() from n -/
def dxTryRF (nm1 nm2 : Str) (i : Nat) (a : Dxe) : Dxs := fun ρ s => (a ρ s).bind fun p => match p.1 with
  | .inl _ => some (.ok (.nx ρ), p.2)
  | .inr x => if x.nm = nm1 ∧ i < ρ.length then some (.xc ⟨nm2, none⟩ (ρ.set i .un), p.2) else none
def tsRF (W : WX) (i : Nat) (C1 C2 : Addr) : Addr → Value → Option Addr → TS := fun a cls _ _ σ H => cls = .ref C1 ∧ (σ[i]? = some (some (V.ref a)) ∧ W (.ref C2) none (σ.set i none) H)
theorem sx_tryRF {K : Kx} {W : WX} {nm1 nm2 : Str} {i : Nat} {te : WX → TE} {a : Dxe} (h1 : ∀ W', SndXE K W' (te W') a) (hx : PySem.W.exmOne K.f (.ref (He.ga K.f nm1)) (.ref (He.ga K.f nm1)) = some true) :
    SndX K W (fun D σ H => (fun W' => tSeq (tDrop (te W')) tNext) (wAs K.f (.ref (He.ga K.f nm1)) i (tsRF W i (He.ga K.f nm1) (He.ga K.f nm2)) (fun _ _ _ _ => False) D) D σ H) (dxTryRF nm1 nm2 i a) := fun c I0 H0 I H σ ρ s o s' e h D q => by
  obtain ⟨⟨r, s1⟩, ha, h⟩ := bind_some_of h
  refine h1 _ _ _ _ _ _ _ _ _ e.env ha _ ?_
  cases r with
  | inl d =>
    cases h
    exact fun v I1 H1 g1 w1 r1 => q σ I1 H1 (e.grow g1 w1)
  | inr x =>
    dsimp only at h
    split at h
    · rename_i hc
      obtain ⟨h2, hl⟩ := hc
      cases h
      intro I1 H1 cls d g1 w1 r1
      have e1 := e.grow g1 w1
      have hcls : cls = .ref (He.ga K.f nm1) := by rw [r1.1, h2]
      have hi : i < σ.length := by rw [e.env.sl.length]; exact hl
      refine ⟨true, by rw [hcls]; exact hx, fun _ ad _ => ⟨hcls, ?_, ?_⟩, fun z => nomatch z⟩
      · rw [List.getElem?_set_self hi]
      · rw [List.set_set]
        exact q _ I1 H1 _ _ (e1.setU i none) ⟨rfl, .inl ⟨rfl, rfl⟩⟩
    · cases h
section
variable {X : Cx} {W : WX} {e : Expr} {es : List Expr} {tx : TA} {ax : Da} {p cpos epos np rp1 rp2 rp3 rpos hpos pos : Pos}
theorem ex_tryRF {j k m i : Nat} {f n cx c2 : Str} {fn : Fnx} (hs : X.stack = X.env :: X.outer) (hf : X.env.frame = some X.env.locals) (hex : X.ex = []) (hN : X.N.Nodup) (hi : X.N[i]? = some n) (hln : X.env.scope.names.lookup n = some .local) (hc : Names X cx (.ref (He.ga X.K cx)))
    (hpa : ∀ hd : Option Value, PassesOwnAt (model X.prog X.w) (X.A.mark hd) X.A X.env X.xe) (tk : L2.Takes X W) (hx : PySem.W.exmOne X.K (.ref (He.ga X.K cx)) (.ref (He.ga X.K cx)) = some true) (r1 : Raises X (.ref (He.ga X.K cx)))
    {bmB : List Value} {B newId initId : String} (FB : ExcBaseFacts B newId initId bmB) (q2 : PySem.W.excIn X.K (He.ga X.K c2) bmB newId = true) (gC : X.mg c2 = some (.ref (He.ga X.K c2))) (kC : PySem.W.keepIn X.K (.ref (He.ga X.K c2)) = true) (r2 : Raises X (.ref (He.ga X.K c2))) (hg2 : Gl X c2)
    (F : Cr (L2N.CX X.prog X.w) X.prog X.w X.K X.mg X.base k f m fn) (hr : Room j X.A) (hk : k ≤ j) (hg : Gl X f) (ha : TryA X (e :: es) tx ax) (hl : ∀ ρ s ds s', ax ρ s = some (ds, s') → ds.length = m)
    (hdf : (f == ("__debug__" : Str)) = false := by decide) (hdn : (n == ("__debug__" : Str)) = false := by decide) (hd2 : (c2 == ("__debug__" : Str)) = false := by decide)
    (he : ∀ (pn : List (Addr × Obj)) (xe : Value → Shared → Prop), starEach (e :: es) (X.tr pn xe).env = (false, eval e (X.tr pn xe).env) :: starEach es (X.tr pn xe).env := by intros; rfl) (hpl : (backTo cpos (starEach es X.env)).any (fun z => z.1) = false := by rfl)
    (hsw : swapsWith (.Call (.Name f p) (e :: es) [] cpos) none epos.line X.env = pure false := by rfl) :
    EX X W (.Try [.Expr (.Call (.Name f p) (e :: es) [] cpos) epos] [.ExceptHandler (some (.Name cx np)) (some n) [.Raise (some (.Call (.Name c2 rp1) [] [] rp2)) (some (.Name n rp3)) rpos] hpos] [] [] pos)
      (fun D σ H => (fun W' => tSeq (tDrop (tCallS (spR X.kx m fn) (WE W') tx)) tNext) (wAs X.K (.ref (He.ga X.K cx)) i (tsRF W i (He.ga X.K cx) (He.ga X.K c2)) (fun _ _ _ _ => False) D) D σ H) (dxTryRF cx c2 i (dCallR fn ax)) := by
  obtain ⟨f', fd, ps, hn, G, gm, kp, b⟩ := F.h
  refine ⟨ps_try_asX hs hf hex hN hi hln hc hpa tk (tb := fun W' => tSeq (tDrop (tCallS (spR X.kx m fn) (WE W') tx)) tNext) (fun W' pn xe tkW _ => ?_) (fun a oe cls d pn xe hz hfo tkS => ?_), sx_tryRF (K := X.kx) (te := fun W' => tCallS (spR X.kx m fn) (WE W') tx) (fun W' => sxe_call ha.s hl) hx⟩
  · exact pss_cons (ps_expr (X := X.tr pn xe) (pe_callS (X := X.tr pn xe) G (hr.mono hk) hg gm kp b (fun σ => L2N.passAt tkW σ) (ha.p pn xe) hdf (he pn xe) hpl) hsw) pss_nil
  · refine ⟨fun pins s σ H D I h => ?_⟩
    obtain ⟨rfl, h⟩ := h
    obtain ⟨vs, hv⟩ := hfo
    have st := ps_raiseFE (X := suiteY X a ((a, oe) :: pn) xe) (pos := rpos) (np := rp3) (n := n) (i := i) (p := (a, oe)) List.mem_cons_self rfl ⟨vs, hv, hz.2.2 vs hv⟩ hz.1 r1 tkS (pmk5_own0 (X := suiteY X a ((a, oe) :: pn) xe) (p := rp1) (pos := rp2) FB q2 gC kC r2 hg2 hd2) hi hln hdn
    exact (pss_cons st pss_nil).run pins s σ H D I h
end
end Dl
end
section
set_option Elab.async false
set_option linter.all false
set_option maxRecDepth 100000
set_option maxHeartbeats 4000000
namespace Dl
open PySem PySem.Spec PyProof.Rows L2 StX
/-! a written dict of texts: D.get(x) -/
/-- what the dict p says of the text z -/
def KSay (K : PySem.W.Frag) (w : World) (p : Addr) (z : Str) (o : Option V) : Prop :=
  ∃ es n, L2.KDict K w p es n ∧
    match o with
    | some v => ∃ u, PySem.W.nsIn K p z = some (some u) ∧ RelV v u
    | none => PySem.W.nsIn K p z = some none
def tKGet1 (K : PySem.W.Frag) (w : World) (p : Addr) (tb : TE) : TE := fun σ H Q => tb σ H fun y H2 => ∃ z o, y = .str z ∧ KSay K w p z o ∧ Q (o.getD .non) H2
theorem pe_kget1 {X : Cx} {o e : Expr} {apos cpos : Pos} {p : Addr} {ty : TE} (ho : PE X o (tC (.ref p))) (he : PE X e ty) (m : M1 X o "get" apos e cpos) (kd : ∃ es n, L2.KDict X.K X.w p es n) : PE X (.Call (.Attribute o "get" apos) [e] [] cpos) (tKGet1 X.K X.w p ty) := by
  refine ⟨fun pins s σ H Q I h => ?_⟩
  obtain ⟨es0, n0, D0⟩ := kd
  refine wpAny_Call_method m.base m.few m.line PySem.F.plainAttrs_dict PySem.F.slot_dict_get PySem.F.type_dict_get (thn (ho.run pins s σ H (fun x H1 => x = V.ref p ∧ ty σ H1 (fun y H2 => ∃ z o, y = .str z ∧ KSay X.K X.w p z o ∧ Q (o.getD .non) H2)) I ⟨rfl, h⟩) fun u s1 ⟨x, H1, I1, rx, ex, q1⟩ => ?_)
  subst ex
  obtain rfl : u = Value.ref p := rx
  refine ⟨kd_type D0 I1, fun b q => ?_, ?_⟩
  · cases q
    exact ⟨_, I1.kIn _ _ D0.at_, rfl⟩
  rw [m.trees]
  refine Calls.callWith_builtin rfl (Calls.evalArgs_plain (Calls.spliced_cons (thn (he.run pins s1 σ H1 _ I1 q1) fun iv s2 ⟨y, H2, I2, ry, z, o, ey, ⟨es, n, D, hs⟩, q2⟩ => Calls.spliced_nil ?_)))
  subst ey
  obtain ⟨t, rfl⟩ := (show ∃ t, iv = Value.str z t from ry)
  refine call_meetsIn PySem.F.slot_dict_get (kd_type D I2) PySem.F.entry_dict_get (PySem.F.args_dict_get_2 _ _) (meets_dict_get (PySem.strKind X.prog X.w) p (PySem.strKind_is X.prog X.w z t) D.low) ⟨_, PySem.W.mapOf_K (prog := X.prog) (w := X.w) I2.kIn D.at_ D.lit, ?_⟩
  cases o with
  | some v =>
    obtain ⟨u, e, r⟩ := hs
    rw [show _ = _ from PySem.W.find_K D.at_ e]
    exact ⟨_, H2, I2.tok _, r, q2⟩
  | none =>
    rw [show _ = _ from PySem.W.find_K D.at_ hs]
    exact ⟨.non, H2, I2.tok _, (show RelV .non .none from rfl), q2⟩
/-- a written dict of texts, and texts that it has not -/
def KTxt (K : PySem.W.Frag) (w : World) (p : Addr) (l : List (Str × Str)) (ms : List Str) : Prop := (∃ es n, L2.KDict K w p es n) ∧ (∀ z v, l.lookup z = some v → KSay K w p z (some (.str v))) ∧ ∀ z, z ∈ ms → KSay K w p z none
def kget1D (l : List (Str × Str)) (ms : List Str) : D → Option D
  | .str z => match l.lookup z with
    | some v => some (.str v)
    | none => if z ∈ ms then some .non else none
  | _ => none
theorem sn_kget1 {K : Kx} {w : World} {p : Addr} {l : List (Str × Str)} {ms : List Str} {tb : TE} {db : Dn} (hk : KTxt K w p l ms) (h1 : SndE K tb db) : SndE K (tKGet1 K w p tb) (dUn (kget1D l ms) db) := fun c I H σ ρ s d s' e h Q q => by
  obtain ⟨⟨x, s1⟩, h2, h⟩ := bind_some_of h
  obtain ⟨z, h3, h⟩ := map_some_of h
  cases h
  have h3 : kget1D l ms x = some _ := h3
  unfold kget1D at h3
  split at h3
  · refine h1 _ _ _ _ _ _ _ _ e h2 _ fun v I1 H1 g1 w1 r1 => ?_
    cases r1 with
    | str =>
      split at h3
      · rename_i v hv
        cases h3
        exact ⟨_, some (.str v), rfl, hk.2.1 _ _ hv, q _ _ _ g1 w1 (.str v)⟩
      · split at h3
        · rename_i hm
          cases h3
          exact ⟨_, none, rfl, hk.2.2 _ hm, q _ _ _ g1 w1 .non⟩
        · cases h3
  · cases h3
theorem ee_kget1 {X : Cx} {b : Expr} {tb : TE} {db : Dn} {apos cpos px : Pos} {x : Str} {p : Addr} {l : List (Str × Str)} {ms : List Str} (hg : Gl X x) (hm : X.mg x = some (.ref p)) (hk : KTxt X.K X.w p l ms) (hb : EE X b tb db) (m : M1 X (.Name x px) "get" apos b cpos := by exact ⟨rfl, by rfl, by decide, rfl⟩) (hd : (x == ("__debug__" : Str)) = false := by decide) :
    EE X (.Call (.Attribute (.Name x px) "get" apos) [b] [] cpos) (tKGet1 X.K X.w p tb) (dUn (kget1D l ms) db) := ⟨pe_kget1 (pe_glob hg hm rfl hd) hb.p m hk.1, sn_kget1 (K := X.kx) hk hb.s⟩
/-- the Bool that the head tests -/
def ktxtB (K : PySem.W.Frag) (p : Addr) (l : List (Str × Str)) (ms : List Str) : Bool :=
  (l.all fun q => match PySem.W.nsIn K p q.1 with
    | some (some (.str v _)) => decide (v = q.2)
    | _ => false) && ms.all fun z => match PySem.W.nsIn K p z with
    | some none => true
    | _ => false
theorem look_in' {z v : Str} : ∀ {l : List (Str × Str)}, l.lookup z = some v → (z, v) ∈ l
  | [], h => by cases h
  | (k, u) :: r, h => by
    have h2 : (match z == k with | true => some u | false => r.lookup z) = some v := h
    cases q : z == k with
    | true =>
      rw [q] at h2
      have e := eq_of_beq q
      cases h2
      rw [e]; exact List.mem_cons_self
    | false =>
      rw [q] at h2
      exact List.mem_cons_of_mem _ (look_in' h2)
theorem ktxt_ok {K : PySem.W.Frag} {w : World} {p : Addr} {l : List (Str × Str)} {ms : List Str} (h : ktxtB K p l ms = true) (kd : ∃ es n, L2.KDict K w p es n) : KTxt K w p l ms := by
  obtain ⟨h1, h2⟩ := He.ba h
  refine ⟨kd, fun z v hz => ?_, fun z hz => ?_⟩
  · obtain ⟨es, n, D⟩ := kd
    have h3 := List.all_eq_true.mp h1 _ (look_in' hz)
    refine ⟨es, n, D, ?_⟩
    revert h3
    show (match PySem.W.nsIn K p z with
      | some (some (.str v' _)) => decide (v' = v)
      | _ => false) = true → _
    split
    · rename_i v' t e
      intro h3
      have := of_decide_eq_true h3
      subst this
      exact ⟨_, e, ⟨t, rfl⟩⟩
    · intro h3; cases h3
  · obtain ⟨es, n, D⟩ := kd
    have h3 := List.all_eq_true.mp h2 _ hz
    refine ⟨es, n, D, ?_⟩
    revert h3
    dsimp only
    split
    · intro _; assumption
    · intro h3; cases h3
end Dl
end
section
set_option Elab.async false
set_option linter.all false
set_option maxRecDepth 100000
set_option maxHeartbeats 4000000
namespace Dl
open PySem PySem.Spec PyProof.Rows L2 StX RZ HotX
/-! isinstance(e, C2) of the error that a def tells of -/
def dIsY (b : Bool) (i : Nat) (a : Addr) : Dn := fun ρ s => match ρ[i]? with
  | some (.im (.fn (.ref a'))) => if a' = a then some (.bl b, s) else none
  | _ => none
theorem ee_isX {X : Cx} {a C2 : Addr} {oe : Obj} {pn : List (Addr × Obj)} {i : Nat} {n nm cx : Str} {d : Option Addr} {bx : Bool} {NM : List (Str × Bool)} {kb : Str → Bool} {p p2 p3 pos : Pos} (hm : (nm, bx) ∈ NM) (hN : NM.all (fun q => !q.2) = true) (hb : d.isSome = bx)
    (EC : ∀ q ∈ NM, ExcC X.K (He.ga X.K q.1)) (hz : Zc (.ref (He.ga X.K nm)) d oe) (hf : ∃ vs, oe.data = .fields vs) (hki : ∀ q ∈ NM, PySem.W.kitOne X.K (.ref (He.ga X.K q.1)) (.ref C2) = some (kb q.1))
    (hg : Gl X "isinstance") (hi : X.mg "isinstance" = none) (hx : PE (X.suite a ((a, oe) :: pn)) (.Name n p2) (tVar i)) (gC : X.mg cx = some (.ref C2)) (hgc : Gl X cx) (hdb : (cx == ("__debug__" : Str)) = false := by decide)
    (hs1 : starEach [.Name n p2, .Name cx p3] X.env = (false, eval (.Name n p2) X.env) :: starEach [.Name cx p3] X.env := by rfl) (hs2 : starEach [.Name cx p3] X.env = (false, eval (.Name cx p3) X.env) :: starEach [] X.env := by rfl) (hpl : (backTo pos (starEach [.Name cx p3] X.env)).any (fun z => z.1) = false := by rfl) :
    EE (X.suite a ((a, oe) :: pn)) (.Call (.Name "isinstance" p) [.Name n p2, .Name cx p3] [] pos) (tCB (rIsE X.K (He.ga X.K nm) a) (tCons (tVar i) (tCons (tC (.ref C2)) tNil))) (dIsY (kb nm) i a) := by
  have hd : d = none := by
    have h1 := List.all_eq_true.mp hN _ hm
    cases d with
    | none => rfl
    | some _ => cases hb; cases h1
  subst hd
  refine ⟨pe_callB (X := X.suite a ((a, oe) :: pn)) (call_isE (EC _ hm) hz hf) hg hi (by decide +kernel) (pa_cons hx (pa_cons (pe_glob (X := X.suite a ((a, oe) :: pn)) (v := .ref C2) hgc gC rfl hdb) pa_nil hs2) hs1) (by decide) (by decide) hs1 hpl, ?_⟩
  intro c I H σ ρ s d s' e h Q q
  unfold dIsY at h
  split at h
  · rename_i a' ha
    split at h
    · rename_i hae
      subst hae
      cases h
      obtain ⟨v, hv, sv⟩ := e.sl.get ha
      cases sv with
      | @im v _ rv =>
        cases rv
        exact ⟨_, hv, .ref C2, .ref C2, kb nm, rfl, fun u hu => hu, hki _ hm, q _ I H (.refl e.sub) e.w (.bl _)⟩
    · cases h
  · cases h
end Dl
end
section
set_option Elab.async false
set_option linter.all false
set_option maxRecDepth 100000
set_option maxHeartbeats 4000000
namespace Dl
open PySem PySem.Spec PyProof.Rows L2 StX
open LamX (CodeO TabB lamEnv lamCx)
/-! the law with a table of lambdas -/
def spLawT (K : PySem.W.Frag) (Pt : Addr) : Sp := fun vs H Q _ => ∃ (a : Addr) (ns : List Int), vs = [.ref a] ∧ SqL K H a (ns.map V.int) ∧ ns.length ≤ 63 ∧ H Pt = some (.tbl #[]) ∧ ∀ H', Q (.bl true) H'
theorem tab_code {K : PySem.W.Frag} {x qual : Str} {params : Arguments} {body : List Stmt} {scope : Scope} {dvs : List V} {kws : List (Str × V)} {fd : FuncData} {cc Pt : Addr} (h : PySem.W.tabIn K x = some (cc, Pt)) (F : FunD K x qual params body scope dvs kws (He.ga K x) fd) : fd.code = .ref cc := by
  obtain ⟨oc, od, dV, kV, doc, pm, an, cdv, ct, osl, rfl, lk, _⟩ := F.ex
  unfold PySem.W.tabIn at h
  unfold He.ga at lk
  cases q : PySem.W.nsIn K mainGlobals x with
  | none => rw [q] at h; cases h
  | some o =>
    cases o with
    | none => rw [q] at h; cases h
    | some v =>
      cases v with
      | ref f =>
        rw [q] at h lk
        dsimp only at h lk
        rw [lk] at h
        dsimp only at h
        split at h
        · rename_i c hc
          split at h
          · split at h
            · cases h; rfl
            · cases h
          · cases h
        · cases h
      | _ => rw [q] at h; cases h
section
variable {P : Program} {w : World} {K : PySem.W.Frag} {mg : Str → Option Value} {base : Heap} {x qual : Str} {params : Arguments} {body : List Stmt} {scope : Scope} {f : Addr} {fd : FuncData}
theorem law_okT {N : List Str} {k i : Nat} {b0 : Int} {x0 : Str} {dn : List (Str × Addr) → Ds} {st0 : Stmt} {rest : List Stmt} {cc Pt : Addr} (F : FunD K x qual params body scope [] [] f fd) (S : FnScope N [x0] scope) (hbody : body = st0 :: rest) (hcd : fd.code = .ref cc) (htab : PySem.W.tabIn K "law" = some (cc, Pt))
    (hb : ∀ (A : Around) (outer : List PySem.Env) (s : Shared) (H : Hp) (E : XK), Room k (A.deeper (envOfC qual scope s.heap.objs.size f (.ref cc))) →
      PS (cxOf CX0 P w K mg base N qual scope f (.ref cc) A outer s H E).nox st0 (tAsg (tLst (tCons (tVar 0) (tCons (tC (.int 0)) (tCons (tC (.int b0)) (tCons (tC (.int 0)) tNil))))) (gName i)) ∧ ∃ t, ESs (cxOf CX0 P w K mg base N qual scope f (.ref cc) A outer s H E).nox rest t (dn (cxOf CX0 P w K mg base N qual scope f (.ref cc) A outer s H E).env.cells))
    (hd : ∀ (cl : List (Str × Addr)) (ns : List Int), ns.length ≤ 63 → ∃ s', dn cl ((Sl.im .tb :: List.replicate (N.length - 1) .un).set i (.im .rw)) ⟨0, b0, 0, ns⟩ = some (.rt (.bl true) false, s')) : FnOk P w K mg base CX0 (k + 1) f fd [x0] (spLawT K Pt) := by
  subst hbody
  obtain ⟨oc, od, dV, kV, doc, pm, an, cdv, ct, osl, rfl, lk, hcd1, _, _⟩ := F.ex
  have ec : cdv = .ref cc := hcd
  subst ec
  refine fn_of lk hcd1 S (fun vs H Q E h => ?_) (fun A outer s H vs Q E hr h => ?_)
  · obtain ⟨a, ns, rfl, _⟩ := h; rfl
  obtain ⟨h0, t, ht⟩ := hb A outer s H E hr
  have hs := ht.s
  refine ⟨_, (pss_cons h0 ht.p).nox, ?_⟩
  obtain ⟨a, ns, rfl, hS, hlen, hPt, q⟩ := h
  obtain ⟨s', hd⟩ := hd (cxOf CX0 P w K mg base N qual scope f (.ref cc) A outer s H E).env.cells ns hlen
  refine ⟨_, rfl, by show 4 ≤ sizeLine; decide, fun p hp => ?_⟩
  -- what is known at the start: the script alone
  let I : Hp := fun z => if z = a ∨ z = Pt then H z else none
  have hIa : I a = H a := if_pos (.inl rfl)
  have hIt : I Pt = H Pt := if_pos (.inr rfl)
  have nap : a ≠ p ∨ H a = none := by
    by_cases z : a = p
    · subst z; exact .inr hp
    · exact .inl z
  have hIp : I p = none := by
    show (if p = a ∨ p = Pt then H p else none) = none
    split
    · exact hp
    · rfl
  have hSI : SqL K I a (ns.map V.int) := by
    rcases hS with (h | ⟨o, h⟩) | h
    · exact .inl (.inl (hIa.trans h))
    · exact .inl (.inr ⟨o, hIa.trans h⟩)
    · exact .inr h
  have sb : Sub I (upd H p (.lst [.ref a, .int 0, .int b0, .int 0])) := fun z o hz => by
    have hz2 : (if z = a ∨ z = Pt then H z else none) = some o := hz
    split at hz2
    · rw [upd_ne (ne_of_none hz2 hp)]
      exact .inl hz2
    · cases hz2
  have w0 : DW ⟨K, P, w⟩ (some p) ⟨0, b0, 0, ns⟩ I (upd H p (.lst [.ref a, .int 0, .int b0, .int 0])) := fun r hr => by
    cases hr
    exact ⟨hIp, a, upd_same, hSI⟩
  have hst : L2.start N [V.ref a] = some (.ref a) :: List.replicate (N.length - 1) none := rfl
  have e0 : Ec ⟨K, P, w⟩ (some p) I (upd H p (.lst [.ref a, .int 0, .int b0, .int 0])) (L2.start N [V.ref a]) (Sl.im .tb :: List.replicate (N.length - 1) .un) ⟨0, b0, 0, ns⟩ := by
    refine ⟨sb, w0, ?_, fun i j p d e _ _ _ h3 _ => start_im (ds := [.tb]) h3⟩
    rw [hst]
    exact slL_start (vs := [.ref a]) (ds := [.tb]) _ (.cons (.tb a fun cp h => by rw [htab] at h; cases h; rw [hIt]; exact hPt) .nil)
  have e1 := e0.setI (v := .ref p) (d := .rw) (.rw rfl) i
  refine hs _ I (upd H p (.lst [.ref a, .int 0, .int b0, .int 0])) I _ _ _ _ _ _ ⟨e1, .refl _, .refl _ _, fun a z => .inl z, fun j p d _ h => ?_, fun r hr => by cases hr; rw [upd_same]; simp⟩ hd _ ?_
  · by_cases z : i = j
    · subst z
      rw [List.getElem?_set] at h
      simp only [if_true] at h
      split at h <;> cases h
    · rw [List.getElem?_set_ne z] at h
      exact (start_im (ds := [.tb]) h).elim
  · intro v I' H' g w' r
    cases r
    exact q H'
end
end Dl
end
section
set_option Elab.async false
set_option linter.all false
set_option maxRecDepth 100000
set_option maxHeartbeats 4000000
namespace Dl
open PySem PySem.Spec PySem.Calls PyProof.Rows L2 StX RZ HotX
/-! an own error with an index: what a def asks of it, and how the head tells it -/
structure IniX (P : Program) (w : World) (K : PySem.W.Frag) (mg : Str → Option Value) (base : Heap) (C : Str) : Prop where
  ox : OexC K (He.ga K C)
  iC : PySem.W.findIn K (.ref (He.ga K C)) "__init__" = some (some (.ref (He.ma K (He.ga K C) "__init__")))
  tI : PySem.W.typeIn K (.ref (He.ma K (He.ga K C) "__init__")) = some (.type "function")
  fd : ∃ (fd : FuncData) (ps : List Str), FnOk P w K mg base CX0 1 (He.ma K (He.ga K C) "__init__") fd ps (spIni (He.ga K C)) ∧ Binds K fd ps []
  gm : mg C = some (.ref (He.ga K C))
theorem ex_raiseI {X : Cx} {W : WX} {j : Nat} {cx : Str} {e : Expr} {te : TE} {de : Dn} {p1 p2 pos : Pos} (hc : X.calm = true) (tk : L2N.Takes X W) (F : IniX X.prog X.w X.K X.mg X.base cx) (hr : Room j X.A) (hj : 2 ≤ j) (hg : Gl X cx) (ha : EE X e te de)
    (hdb : (cx == ("__debug__" : Str)) = false := by decide) (he : starEach [e] X.env = (false, eval e X.env) :: starEach [] X.env := by rfl) (hpl : (backTo p2 (starEach [] X.env)).any (fun z => z.1) = false := by rfl) :
    EX X W (.Raise (some (.Call (.Name cx p1) [e] [] p2)) none pos) (fun _ σ H => tIni (He.ga X.K cx) te σ H fun cls d H' => W cls d σ H') (dxRaise1 cx de) := by
  obtain ⟨fd, ps, G, b⟩ := F.fd
  exact ex_raise1 hc tk F.ox F.iC F.tI G (hr.mono hj) b hg F.gm ha hdb he hpl
/-- a class's j-th statement -/
def clsDef (s : Stmt) (j : Nat) : Stmt := match s with
  | .ClassDef _ _ _ b _ _ _ _ _ _ _ => b.getD j (.Pass ⟨0, 0, 0, 0⟩)
  | _ => .Pass ⟨0, 0, 0, 0⟩
/-- the text of C.__init__ as K has it -/
def iniS (K : PySem.W.Frag) (C : Str) : Option (Str × Str × Arguments × FuncBody × Scope × Addr × Addr × Value) := match K.lookup (He.ma K (He.ga K C) "__init__") with
  | some ⟨_, _, .func fd, _⟩ => some (fd.name, fd.qualname, fd.params, fd.body, fd.scope, fd.globals, fd.builtins, fd.defaults)
  | _ => none
def cloB (K : PySem.W.Frag) (C : Addr) : List (Str × Addr) → Bool
  | [(x, cc)] => decide (x = "__class__") && (match K.lookup cc with
    | some ⟨_, _, .cell (some (.ref C')), _⟩ => decide (C' = C)
    | _ => false)
  | _ => false
def codB (P : Program) (K : PySem.W.Frag) (q : Str) : Value → Bool
  | .ref c => PySem.W.codeIn K (.ref c) q && (match K.lookup c with
    | some ⟨_, _, .fields vs, _⟩ => (match (vs[2]? : Option Value) with
      | some (.str file _) => ((P.main.file : Str) == file)
      | _ => false)
    | _ => false)
  | _ => false
def fnB (P : Program) (K : PySem.W.Frag) (C : Str) (q : Str) : Bool := match K.lookup (He.ma K (He.ga K C) "__init__") with
  | some ⟨_, _, .func fd, _⟩ => cloB K (He.ga K C) fd.closure && codB P K q fd.code
  | _ => false
def oexB (K : PySem.W.Frag) (C : Addr) : Bool := match K.lookup C with
  | some ⟨.type t, _, .cls cd, sl⟩ => (match cd.mro, sl.toList with
    | .ref C' :: bm, [_, _, _, _, some (.builtin n), _] => (decide (t = "type") && decide (C' = C)) && ((decide (n = "ValueError.__new__") && !cd.hasDel) && (cd.hasDict && PySem.HandSPX.refsVE bm))
    | _, _ => false)
  | _ => false
def tyFx : Option Value → Bool
  | some (.type n) => n == "function"
  | _ => false
theorem tyFx_ok {x : Option Value} (h : tyFx x = true) : x = some (.type "function") := by
  unfold tyFx at h
  split at h
  · rw [beq_iff_eq.mp h]
  · cases h
def iniB (P : Program) (K : PySem.W.Frag) (C : Str) (q : Str) : Bool :=
  (He.eqO (PySem.W.findIn K (.ref (He.ga K C)) "__init__") (some (some (.ref (He.ma K (He.ga K C) "__init__")))) && (tyFx (PySem.W.typeIn K (.ref (He.ma K (He.ga K C) "__init__"))) && fnB P K C q)) &&
  ((oexB K (He.ga K C) && (bltB "object.__setattr__" (PySem.W.findIn K (.ref (He.ga K C)) "__setattr__") && trB (PySem.W.subIn K (.ref (He.ga K C)) (.type "BaseException")))) &&
  ((tyBx (PySem.W.typeIn K (.ref (He.ga K C))) && (PySem.W.keepIn K (.ref (He.ga K C)) && trB (PySem.W.mroIn K (He.ga K C) (.ref (He.ga K C))))) &&
  (((!(P.main.scope.names.lookup ("super" : Str)).isSome) && (bltB "ValueError.__init__" (PySem.W.ks_superIn K (He.ga K C) (He.ga K C) "__init__") && nonB (PySem.W.nsIn K cStatics "thirdparty.any"))) &&
  (trB (PySem.W.subIn K (.ref (He.ga K C)) (.type "ValueError")) && nonB (PySem.W.findIn K (.ref (He.ga K C)) "index")))))
theorem oexB_ok {K : PySem.W.Frag} {C : Addr} (h : oexB K C = true) : ∃ nm q N bs bm sn sub ab col dd k0 k1 k2 k3 k5, K.lookup C = some (excClassObj nm q C N bs bm true sn sub ab col dd k0 k1 k2 k3 k5 "ValueError.__new__") ∧ PySem.HandSPX.refsVE bm = true := by
  unfold oexB at h
  split at h
  · rename_i t dd cd sl ho
    split at h
    · rename_i C' bm k0 k1 k2 k3 n k5 hm hs
      simp only [Bool.and_eq_true, decide_eq_true_eq, Bool.not_eq_true'] at h
      obtain ⟨⟨h1, h2⟩, ⟨h3, h4⟩, h5, h6⟩ := h
      obtain ⟨nm, bs, mro, ns, qn, hd, sn, sub, ab, col, del⟩ := cd
      dsimp only at hm h4 h5
      subst hm h4 h5 h1 h2 h3
      have hsl : sl = #[k0, k1, k2, k3, some (.builtin "ValueError.__new__"), k5] := by
        obtain ⟨l⟩ := sl
        simp only at hs
        rw [hs]
      subst hsl
      exact ⟨nm, qn, ns, bs, bm, sn, sub, ab, col, dd, k0, k1, k2, k3, k5, ho, h6⟩
    · cases h
  · cases h
structure IniF (P : Program) (K : PySem.W.Frag) (mg : Str → Option Value) (C : Str) (params : Arguments) (body : List Stmt) (scope : Scope) (q : Str) (fd : FuncData) (cc cda : Addr) : Prop where
  s : SupC P K mg (He.ga K C) (He.ma K (He.ga K C) "__init__") cc cda params body scope q fd
  iC : PySem.W.findIn K (.ref (He.ga K C)) "__init__" = some (some (.ref (He.ma K (He.ga K C) "__init__")))
  tI : PySem.W.typeIn K (.ref (He.ma K (He.ga K C) "__init__")) = some (.type "function")
  df : ∃ kV doc pm an ct, fd = PySem.W.ksFn "__init__" q params body scope .none kV doc pm an (.ref cda) ct cc
theorem iniB_ok {P : Program} {K : PySem.W.Frag} {mg : Str → Option Value} {C q : Str} {params : Arguments} {body : List Stmt} {scope : Scope} (h : iniB P K C q = true) (hs : iniS K C = some (("__init__" : Str), q, params, FuncBody.stmts body, scope, mainGlobals, builtinsNs, Value.none)) (hsup : mg "super" = none)
    (ha : ∃ ar : Arg, (params.posonlyargs ++ params.args).head? = some ar ∧ ar.arg = "self") : ∃ fd cc cda, IniF P K mg C params body scope q fd cc cda := by
  unfold iniB at h
  obtain ⟨h1, h⟩ := He.ba h
  obtain ⟨a1, a2⟩ := He.ba h1
  obtain ⟨a4, a3⟩ := He.ba a2
  obtain ⟨h1, h⟩ := He.ba h
  obtain ⟨b1, b2⟩ := He.ba h1
  obtain ⟨b4, b3⟩ := He.ba b2
  obtain ⟨h1, h⟩ := He.ba h
  obtain ⟨c1, c2⟩ := He.ba h1
  obtain ⟨c4, c3⟩ := He.ba c2
  obtain ⟨h1, h⟩ := He.ba h
  obtain ⟨d1, d2⟩ := He.ba h1
  obtain ⟨d4, d3⟩ := He.ba d2
  obtain ⟨e1, e2⟩ := He.ba h
  unfold iniS at hs
  unfold fnB at a3
  cases q0 : K.lookup (He.ma K (He.ga K C) "__init__") with
  | none => rw [q0] at a3; cases a3
  | some o =>
    obtain ⟨oc, od, dt, osl⟩ := o
    rw [q0] at a3 hs
    cases dt with
    | func fd =>
      dsimp only at a3 hs
      obtain ⟨f1, f2⟩ := He.ba a3
      obtain ⟨n1, n2, n3, n4, n5, n6, clo, n8, kV, doc, pm, an, cod, ct, n9⟩ := fd
      dsimp only at f1 f2 hs
      injection hs with hs
      injection hs with e1' hs
      injection hs with e2' hs
      injection hs with e3' hs
      injection hs with e4' hs
      injection hs with e5' hs
      injection hs with e6' hs
      injection hs with e7' e8'
      subst e1' e2' e3' e4' e5' e6' e7' e8'
      unfold cloB at f1
      split at f1
      · rename_i x cc
        obtain ⟨g1, g2⟩ := He.ba f1
        have gx := of_decide_eq_true g1
        subst gx
        unfold codB at f2
        split at f2
        · rename_i cda
          obtain ⟨g3, g4⟩ := He.ba f2
          refine ⟨_, cc, cda, ⟨⟨oexB_ok b1, bltB_ok b4, trB_ok b3, tyBx_ok c1, c4⟩, ⟨oc, .none, kV, doc, pm, ct, an, od, osl, rfl, q0⟩, g3, ?_, ?_, trB_ok c3, hsup, by simpa using d1, bltB_ok d4, nonB_ok d3, trB_ok e1, nonB_ok e2, ha⟩, He.eqO_ok a1, tyFx_ok a4, ⟨kV, doc, pm, an, ct, rfl⟩⟩
          · split at g2
            · rename_i hl
              have z := of_decide_eq_true g2
              subst z
              exact ⟨_, _, _, hl⟩
            · cases g2
          · split at g4
            · rename_i hl
              split at g4
              · rename_i hv
                exact ⟨_, _, _, _, _, _, hl, hv, g4⟩
              · cases g4
            · cases g4
        · cases f2
      · cases f1
    | _ => cases hs
def supB (scope : Scope) : Bool := (scope.names.all fun y => !decide (y.2 = .cell) && (!decide (y.2 = .free) || decide (y.1 = "__class__")))
theorem supS_by {scope : Scope} (h : supB scope = true) (h1 : scope.kind = .function) (h2 : scope.isCoroutine = false) (h3 : scope.isGenerator = false) (h4 : scope.names.lookup ("__class__" : Str) = some .free) (h5 : scope.names.lookup ("super" : Str) = some .globalImplicit) (h6 : scope.names.lookup ("self" : Str) = some .local) (h7 : scope.names.lookup ("index" : Str) = some .local) : SupS scope := by
  unfold supB at h
  simp only [Bool.and_eq_true, Bool.or_eq_true, Bool.not_eq_true', decide_eq_true_eq, decide_eq_false_iff_not, List.all_eq_true] at h
  exact ⟨h1, h2, h3, fun y hy => (h y hy).1, fun y hy => ((h _ (PySem.mem_of_lookup hy)).2.elim (fun z => absurd rfl z) id), h4, h5, h6, h7⟩
theorem iniX_of {P : Program} {w : World} {K : PySem.W.Frag} {mg : Str → Option Value} {base : Heap} {C q : Str} {params : Arguments} {body : List Stmt} {scope : Scope} {p0 p1 p2 p3 p4 p5 p6 p7 p8 p9 : Pos} (h : iniB P K C q = true) (hs : iniS K C = some (("__init__" : Str), q, params, FuncBody.stmts body, scope, mainGlobals, builtinsNs, Value.none)) (hsup : mg "super" = none)
    (ha : ∃ ar : Arg, (params.posonlyargs ++ params.args).head? = some ar ∧ ar.arg = "self") (S : SupS scope) (hbody : body = [.Expr (supE p0 p1 p2 p3 p4) p5, .Assign [.Attribute (.Name "self" p6) "index" p7] (.Name "index" p8) p9])
    (hI : ∀ L fI cda cc, interactive (PySem.W.ksEnv q scope L fI (.ref cda) cc) = false) (hS1 : ∀ L fI cda cc, swapsWith (supE p0 p1 p2 p3 p4) none p5.line (PySem.W.ksEnv q scope L fI (.ref cda) cc) = pure false)
    (hS2 : ∀ L fI cda cc, swapsWith (.Name "index" p8) (some (.Attribute (.Name "self" p6) "index" p7)) p9.line (PySem.W.ksEnv q scope L fI (.ref cda) cc) = pure false)
    (hM : ∀ L fI cda cc, ∃ pl : Sem Bool, eval (supE p0 p1 p2 p3 p4) (PySem.W.ksEnv q scope L fI (.ref cda) cc) = (do
      let ov ← attributeBase (.Call (.Name "super" p0) [] [] p1) "__init__" (PySem.W.ksEnv q scope L fI (.ref cda) cc) (eval (.Call (.Name "super" p0) [] [] p1) (PySem.W.ksEnv q scope L fI (.ref cda) cc))
      standAt p2.atName
      let (f, first) ← holding [ov] (getMethod ov "__init__" pl)
      callWith p4 f first (backTo p4 (starEach [.Name "index" p3] (PySem.W.ksEnv q scope L fI (.ref cda) cc))) []))
    (hB : ∀ (kV doc pm : Value) (an : Option Addr) (cda cc : Addr) (ct : Value) (us : List Value), us.length = 2 → bindArgs (PySem.W.ksFn "__init__" q params body scope .none kV doc pm an (.ref cda) ct cc) ⟨us, []⟩ = pure ((["self", "index"] : List Str).zip us)) (gm : mg C = some (.ref (He.ga K C))) : IniX P w K mg base C := by
  subst hbody
  obtain ⟨fd, cc, cda, F⟩ := iniB_ok h hs hsup ha
  refine ⟨F.s.ox, F.iC, F.tI, ⟨fd, ["self", "index"], sup_ok S F.s (fun L => hI L _ _ _) (fun L => hS1 L _ _ _) (fun L => hS2 L _ _ _) (fun L => hM L _ _ _), ?_⟩, gm⟩
  obtain ⟨kV, doc, pm, an, ct, rfl⟩ := F.df
  exact .all fun us hl => hB kV doc pm an cda cc ct us hl
end Dl
end
section
set_option Elab.async false
set_option linter.all false
set_option maxRecDepth 100000
set_option maxHeartbeats 4000000
namespace Dl
open PySem PySem.Spec PySem.Calls PyProof.Rows L2 StX RZ HotX
/-! the table of one lambda -/
theorem tab1_T {X : Cx} {k n : Nat} {t : LamT} {te : XK → TE} {dx : Dxe} (h : LamX8 X k n t te dx) : ∀ q ∈ [(n, dx)], ∃ t' te', (t', te') ∈ [(t, te)] ∧ LamX8 X k q.1 t' te' q.2 := fun q hq => by
  obtain rfl := List.mem_singleton.mp hq
  exact ⟨t, te, List.mem_singleton_self _, h⟩
theorem tab1_TT {X : Cx} {k n : Nat} {t : LamT} {te : XK → TE} {dx : Dxe} (h : LamX8 X k n t te dx) : ∀ q ∈ [(t, te)], LamD X k q.1 q.2 := fun q hq => by
  obtain rfl := List.mem_singleton.mp hq
  exact h.d
end Dl
end
section
set_option Elab.async false
set_option linter.all false
set_option maxRecDepth 100000
set_option maxHeartbeats 4000000
namespace PySem.W
open PySem PySem.Spec PySem.Calls PyProof.Rows
section
variable {prog : Program} {w : World} {A : Around} {E : Value → Shared → Prop} {s : Shared} {K : Frag} {x D : Addr} {ox : Obj} {od : Option Obj}
/-- e.__class__ of an error, with a dict or without; the dict has no such name -/
theorem kinE_class {Q : Option Value → Shared → Prop} (hga : findIn K (.ref D) "__getattribute__" = some (some (.builtin "BaseException.__getattribute__"))) (hgt : findIn K (.ref D) "__getattr__" = some none) (hsub : subIn K (.ref D) (.type "BaseException") = some true)
    (hdct : hasDictIn K D = true) (ha : findIn K (.ref D) "__class__" = some (some (.builtin "object.__class__")))
    (hn : specialIn K (.builtin "object.__class__") "__get__" = some (some (.builtin "getset_descriptor.__get__"))) (htk : takesIn K (.builtin "object.__class__") = some true) (hm : mroIn K D (.type "object") = some true)
    (hf : findObj K D od "__class__" = some (.bind (.builtin "getset_descriptor.__get__") (.builtin "object.__class__")))
    (X : K.In s.heap) (I : InstAt s.heap x ox D od) (h : Q (some (.ref D)) { s with toks := s.toks + 1 }) : wpAny (model prog w) A (getAttr? (.ref x) "__class__") Q E s := by
  obtain ⟨hp, g, d, t, os⟩ := s
  have L0 := I.type (M := model prog w)
  have L1 := looks_findIn (M := model prog w) X hga
  have L2 := looks_findIn (M := model prog w) X hgt
  have L3 := looks_find (M := model prog w) X I hf
  have sub : Looks (model prog w) hp (isInstance (.ref x) (.type "BaseException")) true := L0.andThen (looks_subIn X hsub)
  have hx0 : (false && onTheHeap (Value.builtin "BaseException.__getattribute__")) = false := rfl
  have hx2 : (Value.builtin "BaseException.__getattribute__" == Value.builtin "object.__getattribute__") = false := by decide +kernel
  have hx1 : (onTheHeap (Value.ref D) && Value.builtin "BaseException.__getattribute__" == Value.builtin "object.__getattribute__") = false := by rw [hx2]; rfl
  unfold getAttr? getAttrBy? getAttrBy
  refine wpAny_bind (wpAny_mkText (wpAny_bind (wpAny_attempt (wpAny_holding (wpAny_bind (L0.at (wpAny_bind (L1.at ?_))))))))
  show wpAny _ _ (if (onTheHeap (Value.ref D) && Value.builtin "BaseException.__getattribute__" == Value.builtin "object.__getattribute__") = true then _ else _) _ _ _
  rw [hx1, if_neg Bool.false_ne_true]
  unfold getAttrByItsOwn hookBefore
  refine wpAny_bind ?_
  rw [if_pos (show onTheHeap (Value.ref D) = true from rfl)]
  refine L2.at ?_
  refine wpAny_bind (wpAny_attempt (wpAny_holding ?_))
  unfold callGetattribute
  rw [hx0, if_neg Bool.false_ne_true]
  unfold boundAndCalled
  rw [PySem.F.excAttr_ValueError.ga.bind (.ref x)]
  refine wpAny_bind (wpAny_pure ?_)
  show wpAny _ _ (call (.builtin "BaseException.__getattribute__") [.ref x, .str "__class__" t]) _ _ _
  refine wpAny_call (codeAny_call_builtin PySem.F.excAttr_ValueError.ga.plain PySem.F.entry_bexc_ga ?_)
  refine @check_slot (model prog w) _ _ ⟨hp, g, d, t + 1, os⟩ "BaseException.__getattribute__" "BaseException" "__getattribute__" (.ref x) [.str "__class__" t] [] _ (by decide +kernel) (by decide +kernel) sub (PySem.F.args_bexc_ga (.ref x) (.str "__class__" t)) ?_
  unfold Builtin.«object.__getattribute__»
  refine wpAny_bind (wpAny_of_eq (a := ((Value.ref x : Value), [Value.str "__class__" t])) (by first | rfl | (simp only [slotArgs]; rfl)) ?_)
  refine wpAny_bind (wpAny_pure (wpAny_bind (L0.at (wpAny_bind (L3.at ?_)))))
  show wpAny _ _ (holding [Value.builtin "object.__class__"] (call (.builtin "getset_descriptor.__get__") [.builtin "object.__class__", .ref x, .ref D]) >>= ret) _ _ _
  refine wpAny_bind (wpAny_holding (wpAny_call (class_get (s := ⟨hp, g, d, t + 1, os⟩) (ox := ox) (od := od) X I hm ?_)))
  refine wpAny_pure ?_
  show wpAny _ _ (handedOut (.ref D)) _ _ _
  rw [handedOut_of (v := .ref D) rfl]
  first
    | exact wpAny_pure (wpAny_pure h)
    | exact wpAny_pure h
    | exact wpAny_pure (wpAny_bind (wpAny_pure (wpAny_pure h)))
theorem findObj_dataA {C : Addr} {name : Str} {a g : Value} (hc : (clsIn K C).isSome = true) (ha : findIn K (.ref C) name = some (some a)) (hg : specialIn K a "__get__" = some (some g)) (ht : takesIn K a = some true) : findObj K C od name = some (.bind g a) := by
  obtain ⟨cd, hc⟩ := Option.isSome_iff_exists.mp hc
  unfold findObj
  rw [hc, Option.bind_some, ha, Option.bind_some]
  simp [hg, ht]
theorem kitX_excD (hga : findIn K (.ref D) "__getattribute__" = some (some (.builtin "BaseException.__getattribute__"))) (hgt : findIn K (.ref D) "__getattr__" = some none) (hsub : subIn K (.ref D) (.type "BaseException") = some true) (hdct : hasDictIn K D = true) (ha : findIn K (.ref D) "__class__" = some (some (.builtin "object.__class__")))
    (hn : specialIn K (.builtin "object.__class__") "__get__" = some (some (.builtin "getset_descriptor.__get__"))) (htk : takesIn K (.builtin "object.__class__") = some true) (hm : mroIn K D (.type "object") = some true) :
    KitX K (.ref x) (.ref D) (fun h => ∃ od, InstAt h x ox D od) where
  ty := fun _ _ _ ⟨_, I⟩ => I.type
  it := fun _ _ X _ => by
    obtain ⟨cdD, hcD, _⟩ := any_some hdct
    unfold clsIn at hcD
    split at hcD
    · rename_i c' d' cd' sl' ho
      intro A' Q' E' s' k q
      unfold isType loadHead
      exact wpAny_bind (wpAny_loadPart (k _ _ (X _ _ ho)) (wpAny_pure q))
    · cases hcD
  ne := fun h tp dd its n sl X htp => by
    obtain ⟨cdD, hcD, _⟩ := any_some hdct
    refine Bool.eq_false_iff.mpr fun q => ?_
    have e : D = tp := Value.ref.inj (beq_iff_eq.mp q)
    subst e
    unfold clsIn at hcD
    split at hcD
    · rename_i c' d' cd' sl' ho
      have z := (X _ _ ho).symm.trans htp
      cases z
    · cases hcD
  ca := fun X ⟨od, I⟩ k => kinE_class hga hgt hsub hdct ha hn htk hm (findObj_dataA (by obtain ⟨cd, hc, _⟩ := any_some hdct; rw [hc]; rfl) ha hn htk) X I k
end
end PySem.W
namespace Dl
open PySem PySem.Spec PyProof.Rows L2 StX RZ HotX
/-- isinstance(e, c) of the error a suite holds, its dict known to the state -/
def rIsD (K : PySem.W.Frag) (D a : Addr) (d : Option Addr) : List V → Hp → VK → Prop := fun xs H Q => ∃ (c : V) (cv : Value) (b : Bool), xs = [.ref a, c] ∧ (∀ u, RelV c u → u = cv) ∧ PySem.W.kitOne K (.ref D) cv = some b ∧ (∀ dd, d = some dd → ∃ fs, H dd = some (.xd fs)) ∧ Q (.bl b) H
def rIsDT (K : PySem.W.Frag) (D a : Addr) (d : Option Addr) : List V → Hp → VK → Prop := fun xs H Q => ∃ (p : Addr) (cs : List V) (cvs : List Value) (b : Bool), xs = [.ref a, .ref p] ∧ H p = some (.tup cs) ∧ (∀ us, Vals cs us → us = cvs) ∧ PySem.W.kitAny K (.ref D) cvs = some b ∧ (∀ dd, d = some dd → ∃ fs, H dd = some (.xd fs)) ∧ Q (.bl b) H
theorem inst_of {X : Cx} {pins : List (Addr × Obj)} {σ : L2.St} {H : Hp} {s : Shared} {a D : Addr} {d : Option Addr} {oe : Obj} (I : Inv X pins σ H s) (hget : s.heap.get? a = some oe) (hz : Zc (.ref D) d oe) (hf : ∃ vs, oe.data = .fields vs) (hd : ∀ dd, d = some dd → ∃ fs, H dd = some (.xd fs)) : ∃ od, PySem.W.InstAt s.heap a oe D od := by
  obtain ⟨vs, hv⟩ := hf
  have nc : PySem.W.notCls oe = true := by unfold PySem.W.notCls; rw [hv] <;> rfl
  cases d with
  | none => exact ⟨none, hget, hz.1, nc, by rw [hz.2]; trivial⟩
  | some dd =>
    obtain ⟨fs, hx⟩ := hd dd rfl
    have hx : ObjOk X.prog X.w H s.heap dd (.xd fs) := I.hok dd _ hx
    obtain ⟨mA, hns, hr⟩ := hx
    obtain ⟨od, ho, hl⟩ := lookIn_ns hns
    exact ⟨some od, hget, hz.1, nc, by rw [hz.2]; exact ho⟩
theorem call_isD {X : Cx} {a D : Addr} {d : Option Addr} {oe : Obj} {pn : List (Addr × Obj)} (C : ExcC X.K D) (hz : Zc (.ref D) d oe) (hf : ∃ vs, oe.data = .fields vs) : CallR (X.suite a ((a, oe) :: pn)) (.builtin "isinstance") (rIsD X.K D a d) := by
  intro pins s σ H xs us Q I r h
  obtain ⟨c, cv, b, rfl, hcv, e, hd, q⟩ := h
  cases r with
  | cons rx rr =>
    cases rr with
    | cons rt rr =>
      cases rr
      cases rx
      have ec := hcv _ rt
      subst ec
      obtain ⟨hget, _⟩ := I.pin (a, oe) (List.mem_append.mpr (.inl List.mem_cons_self))
      exact PySem.W.kia_one (PySem.W.kitX_excD C.hg C.hk C.hs C.hd C.ha C.hn C.ht C.hm) I.kIn (inst_of I hget hz hf hd) e (fun z => nomatch z) fun tk => ⟨.bl b, H, I.kept (t' := tk) fun _ _ z => z, rfl, q⟩
theorem call_isDT {X : Cx} {a D : Addr} {d : Option Addr} {oe : Obj} {pn : List (Addr × Obj)} (C : ExcC X.K D) (hz : Zc (.ref D) d oe) (hf : ∃ vs, oe.data = .fields vs) : CallR (X.suite a ((a, oe) :: pn)) (.builtin "isinstance") (rIsDT X.K D a d) := by
  intro pins s σ H xs us Q I r h
  obtain ⟨p, cs, cvs, b, rfl, hp, hcv, e, hd, q⟩ := h
  cases r with
  | cons rx rr =>
    cases rr with
    | cons rt rr =>
      cases rr
      cases rx
      cases rt
      obtain ⟨hget, _⟩ := I.pin (a, oe) (List.mem_append.mpr (.inl List.mem_cons_self))
      obtain ⟨_, its, rv, oT, hoT, h2, n, h3⟩ := (show ObjOk X.prog X.w H s.heap p (.tup cs) from I.hok p _ hp)
      have e3 := hcv _ rv
      subst e3
      obtain ⟨oc, odT, dt, sl⟩ := oT
      simp only at h2 h3
      subst h2 h3
      exact PySem.W.kia_tup (PySem.W.kitX_excD C.hg C.hk C.hs C.hd C.ha C.hn C.ht C.hm) I.kIn (inst_of I hget hz hf hd) hoT e (fun z => nomatch z) fun tk => ⟨.bl b, H, I.kept (t' := tk) fun _ _ z => z, rfl, q⟩
end Dl
end
section
set_option Elab.async false
set_option linter.all false
set_option maxRecDepth 100000
set_option maxHeartbeats 4000000
namespace Dl
open PySem PySem.Spec PyProof.Rows L2 StX RZ HotX
/-! the error that a def tells of, with its index -/
def dIsZ (b : Bool) (i : Nat) (a : Addr) (d : Option Addr) : Dn := fun ρ s => match ρ[i]? with
  | some (.im (.fn (.ref a'))) => if a' = a ∧ d = none then some (.bl b, s) else none
  | some (.im (.exi a' dd _)) => if a' = a ∧ d = some dd then some (.bl b, s) else none
  | _ => none
def dXf (i : Nat) (a : Addr) (d : Option Addr) : Dn := fun ρ s => match ρ[i]? with
  | some (.im (.exi a' dd e)) => if a' = a ∧ d = some dd then some (e, s) else none
  | _ => none
theorem isZ_at {K : Kx} {c : Option Addr} {I H : Hp} {σ : L2.St} {ρ : List Sl} {s s' : Tau} {i : Nat} {b : Bool} {a : Addr} {d : Option Addr} {z : D} (e : Ec K c I H σ ρ s) (h : dIsZ b i a d ρ s = some (z, s')) :
    z = .bl b ∧ s' = s ∧ σ[i]? = some (some (.ref a)) ∧ ∀ dd, d = some dd → ∃ fs, H dd = some (.xd fs) := by
  unfold dIsZ at h
  split at h
  · rename_i a' ha
    split at h
    · rename_i hae
      obtain ⟨rfl, rfl⟩ := hae
      cases h
      obtain ⟨v, hv, sv⟩ := e.sl.get ha
      cases sv with
      | @im v _ rv => cases rv; exact ⟨rfl, rfl, hv, fun dd q => by cases q⟩
    · cases h
  · rename_i a' dd0 e0 ha
    split at h
    · rename_i hae
      obtain ⟨rfl, rfl⟩ := hae
      cases h
      obtain ⟨v, hv, sv⟩ := e.sl.get ha
      cases sv with
      | @im v _ rv =>
        cases rv with
        | exi hI r => exact ⟨rfl, rfl, hv, fun dd q => by cases q; exact ⟨_, e.sub.get hI (fun kvs z => by cases z) (fun ps z => by cases z)⟩⟩
    · cases h
  · cases h
section
variable {X : Cx} {a C1 C2 : Addr} {oe : Obj} {pn : List (Addr × Obj)} {i : Nat} {n nm cx c1 c2 : Str} {d : Option Addr} {bx : Bool} {NM : List (Str × Bool)} {kb kb1 kb2 : Str → Bool} {p p2 p3 p4 p5 pos : Pos}
theorem ee_isZ (hm : (nm, bx) ∈ NM) (EC : ∀ q ∈ NM, ExcC X.K (He.ga X.K q.1)) (hz : Zc (.ref (He.ga X.K nm)) d oe) (hf : ∃ vs, oe.data = .fields vs) (hki : ∀ q ∈ NM, PySem.W.kitOne X.K (.ref (He.ga X.K q.1)) (.ref C2) = some (kb q.1))
    (hg : Gl X "isinstance") (hi : X.mg "isinstance" = none) (hx : PE (X.suite a ((a, oe) :: pn)) (.Name n p2) (tVar i)) (gC : X.mg cx = some (.ref C2)) (hgc : Gl X cx) (hdb : (cx == ("__debug__" : Str)) = false := by decide)
    (hs1 : starEach [.Name n p2, .Name cx p3] X.env = (false, eval (.Name n p2) X.env) :: starEach [.Name cx p3] X.env := by rfl) (hs2 : starEach [.Name cx p3] X.env = (false, eval (.Name cx p3) X.env) :: starEach [] X.env := by rfl) (hpl : (backTo pos (starEach [.Name cx p3] X.env)).any (fun z => z.1) = false := by rfl) :
    EE (X.suite a ((a, oe) :: pn)) (.Call (.Name "isinstance" p) [.Name n p2, .Name cx p3] [] pos) (tCB (rIsD X.K (He.ga X.K nm) a d) (tCons (tVar i) (tCons (tC (.ref C2)) tNil))) (dIsZ (kb nm) i a d) := by
  refine ⟨pe_callB (X := X.suite a ((a, oe) :: pn)) (call_isD (EC _ hm) hz hf) hg hi (by decide +kernel) (pa_cons hx (pa_cons (pe_glob (X := X.suite a ((a, oe) :: pn)) (v := .ref C2) hgc gC rfl hdb) pa_nil hs2) hs1) (by decide) (by decide) hs1 hpl, ?_⟩
  intro c I H σ ρ s z s' e h Q q
  obtain ⟨rfl, rfl, hv, hd⟩ := isZ_at e h
  exact ⟨_, hv, .ref C2, .ref C2, kb nm, rfl, fun u hu => hu, hki _ hm, hd, q _ I H (.refl e.sub) e.w (.bl _)⟩
/-- isinstance(e, (C1, C2)) -/
theorem ee_isZ2 {k : Nat} (hm : (nm, bx) ∈ NM) (EC : ∀ q ∈ NM, ExcC X.K (He.ga X.K q.1)) (hz : Zc (.ref (He.ga X.K nm)) d oe) (hf : ∃ vs, oe.data = .fields vs) (hk1 : ∀ q ∈ NM, PySem.W.kitOne X.K (.ref (He.ga X.K q.1)) (.ref C1) = some (kb1 q.1)) (hk2 : ∀ q ∈ NM, PySem.W.kitOne X.K (.ref (He.ga X.K q.1)) (.ref C2) = some (kb2 q.1))
    (hg : Gl X "isinstance") (hi : X.mg "isinstance" = none) (hx : PE (X.suite a ((a, oe) :: pn)) (.Name n p2) (tVar i)) (g1 : X.mg c1 = some (.ref C1)) (hg1 : Gl X c1) (g2 : X.mg c2 = some (.ref C2)) (hg2 : Gl X c2) (hd1 : (c1 == ("__debug__" : Str)) = false := by decide) (hd2 : (c2 == ("__debug__" : Str)) = false := by decide)
    (hs : starEach [.Name n p2, .Tuple [.Name c1 p3, .Name c2 p4] k p5] X.env = (false, eval (.Name n p2) X.env) :: starEach [.Tuple [.Name c1 p3, .Name c2 p4] k p5] X.env := by rfl)
    (hs2 : starEach [.Tuple [.Name c1 p3, .Name c2 p4] k p5] X.env = (false, eval (.Tuple [.Name c1 p3, .Name c2 p4] k p5) X.env) :: starEach [] X.env := by rfl)
    (hs3 : starEach [.Name c1 p3, .Name c2 p4] X.env = (false, eval (.Name c1 p3) X.env) :: starEach [.Name c2 p4] X.env := by rfl) (hs4 : starEach [.Name c2 p4] X.env = (false, eval (.Name c2 p4) X.env) :: starEach [] X.env := by rfl)
    (hpl : (backTo pos (starEach [.Tuple [.Name c1 p3, .Name c2 p4] k p5] X.env)).any (fun z => z.1) = false := by rfl) :
    EE (X.suite a ((a, oe) :: pn)) (.Call (.Name "isinstance" p) [.Name n p2, .Tuple [.Name c1 p3, .Name c2 p4] k p5] [] pos) (tCB (rIsDT X.K (He.ga X.K nm) a d) (tCons (tVar i) (tCons (tTup (tCons (tC (.ref C1)) (tCons (tC (.ref C2)) tNil))) tNil))) (dIsZ (kb1 nm || kb2 nm) i a d) := by
  refine ⟨pe_callB (X := X.suite a ((a, oe) :: pn)) (call_isDT (EC _ hm) hz hf) hg hi (by decide +kernel) (pa_cons hx (pa_cons (pe_tup (X := X.suite a ((a, oe) :: pn)) (pa_cons (pe_glob (X := X.suite a ((a, oe) :: pn)) (v := .ref C1) hg1 g1 rfl hd1) (pa_cons (pe_glob (X := X.suite a ((a, oe) :: pn)) (v := .ref C2) hg2 g2 rfl hd2) pa_nil hs4) hs3)) pa_nil hs2) hs) (by decide) (by decide) hs hpl, ?_⟩
  intro c I H σ ρ s z s' e h Q q
  obtain ⟨rfl, rfl, hv, hd⟩ := isZ_at e h
  refine ⟨_, hv, by show 2 ≤ sizeLine; decide, fun t ht => ?_⟩
  have g := Gr.new (o := .tup [.ref C1, .ref C2]) e.sub ht
  refine ⟨t, [.ref C1, .ref C2], [.ref C1, .ref C2], kb1 nm || kb2 nm, rfl, upd_same, fun us hu => ?_, ?_, fun dd hdd => ?_, q _ _ _ g.up (e.w.gr g) (.bl _)⟩
  · cases hu with
    | cons r1 r => cases r with
      | cons r2 r => cases r; cases r1; cases r2; rfl
  · refine kitAny_cons (hk1 _ hm) (fun hb => ?_) (fun hb => by rw [hb]; rfl)
    rw [hb, Bool.false_or]
    refine kitAny_cons (hk2 _ hm) (fun hb2 => ?_) (fun hb2 => hb2)
    rw [hb2]; rfl
  · obtain ⟨fs, hfs⟩ := hd dd hdd
    exact ⟨fs, by rw [upd_ne (ne_of_none hfs ht)]; exact hfs⟩
/-- e.index -/
theorem ee_xf {bx : Bool} (hm : (nm, bx) ∈ NM) (hb : d.isSome = bx) (XF : ∀ q ∈ NM, q.2 = true → XfC X.K (He.ga X.K q.1) ∧ PySem.W.findIn X.K (.ref (He.ga X.K q.1)) "index" = some none) (hz : Zc (.ref (He.ga X.K nm)) d oe) (hf : ∃ vs, oe.data = .fields vs)
    (hx : PE (X.suite a ((a, oe) :: pn)) (.Name n p2) (tVar i)) (hbase : attributeBase (.Name n p2) "index" X.env (eval (.Name n p2) X.env) = eval (.Name n p2) X.env := by rfl) :
    EE (X.suite a ((a, oe) :: pn)) (.Attribute (.Name n p2) "index" pos) (tXf a (.ref (He.ga X.K nm)) d (He.ga X.K nm) "index" (tVar i)) (dXf i a d) := by
  refine ⟨?_, ?_⟩
  · cases d with
    | none =>
      refine ⟨fun pins s σ H Q I h => attr_of hbase (thn (hx.run pins s σ H _ I h) fun u s1 hh => ?_)⟩
      obtain ⟨x, H1, I1, rx, ex, ec, dd, fs, v, ed, _⟩ := hh
      cases ed
    | some dd =>
      obtain ⟨T, hno⟩ := XF _ hm (by rw [← hb]; rfl)
      exact pe_xf T hno hz hf hx hbase
  · intro c I H σ ρ s z s' e h Q q
    unfold dXf at h
    split at h
    · rename_i a' dd0 e0 ha
      split at h
      · rename_i hae
        obtain ⟨rfl, rfl⟩ := hae
        cases h
        obtain ⟨v, hv, sv⟩ := e.sl.get ha
        cases sv with
        | @im v _ rv =>
          cases rv with
          | exi hI r => exact ⟨_, hv, rfl, rfl, _, _, _, rfl, e.sub.get hI (fun kvs z => by cases z) (fun ps z => by cases z), rfl, q _ I H (.refl e.sub) e.w r⟩
      · cases h
    · cases h
end
end Dl
end
section
set_option Elab.async false
set_option linter.all false
set_option maxRecDepth 100000
set_option maxHeartbeats 4000000
namespace Dl
open PySem PySem.Spec PyProof.Rows L2 StX
/-! a list of truth values: index, count -/
def blsOf : List D → Option (List Bool)
  | [] => some []
  | .bl b :: r => (blsOf r).map (b :: ·)
  | _ :: _ => none
theorem RepL.bls {K : Kx} {c : Option Addr} {I : Hp} : ∀ {vs : List V} {ds : List D} {bs : List Bool}, RepL K c I vs ds → blsOf ds = some bs → vs = bs.map V.bl
  | _, _, _, .nil, h => by cases h; rfl
  | _, _, _, .cons (d := d) r1 r, h => by
    cases r1 with
    | bl b =>
      obtain ⟨bs, h1, h2⟩ := map_some_of h
      cases h2
      rw [List.map_cons, RepL.bls r h1]
    | _ => cases h
def blIxD : D → List D → Option D
  | .lst ds, [.bl b] => (blsOf ds).bind fun bs => match bs.idxOf? b with
    | some j => some (.int (j : Nat))
    | none => none
  | _, _ => none
def blCntD : D → List D → Option D
  | .lst ds, [.bl b] => (blsOf ds).map fun bs => .int (bs.count b : Nat)
  | _, _ => none
/-- a method of a list -/
def SndML (K : Kx) (r : V → List V → Hp → VK → Prop) (f : D → List D → Option D) : Prop := ∀ c I H x xs d ds z, Sub I H → Rep K c I x d → RepL K c I xs ds → f d ds = some z → ∀ Q, RQ K c I H z Q → r x xs H Q
def dMethL (f : D → List D → Option D) (dx : Dn) (ax : Da) : Dn := fun ρ s => (dx ρ s).bind fun p => match p.1 with
  | .lst ds => (ax ρ p.2).bind fun q => (f (.lst ds) q.1).map fun z => (z, q.2)
  | _ => none
theorem lst_sq {K : Kx} {I H : Hp} {a : Addr} {xs : List V} (s : Sub I H) (h : I a = some (.lst xs)) : SqL K.f H a xs := .inl (.inl (s.get h (fun kvs z => by cases z) (fun ps z => by cases z)))
theorem sn_bmL {K : Kx} {r : V → List V → Hp → VK → Prop} {f : D → List D → Option D} {to : TE} {tx : TA} {dx : Dn} {ax : Da} (h0 : SndE K to dx) (h1 : SndA K tx ax) (hr : SndML K r f) : SndE K (tBM K "list" r to tx) (dMethL f dx ax) := fun c I H σ ρ s d s' e h Q q => by
  obtain ⟨⟨x, s1⟩, h2, h⟩ := bind_some_of h
  refine h0 _ _ _ _ _ _ _ _ e h2 _ fun v I1 H1 g1 w1 r1 => ?_
  cases r1 with
  | lst hI rl =>
    obtain ⟨⟨y, s2⟩, h3, h⟩ := bind_some_of h
    obtain ⟨z, h4, h⟩ := map_some_of h
    cases h
    refine ⟨.inl ⟨rfl, _, lst_sq g1.s2 hI⟩, ?_⟩
    refine h1 _ _ _ _ _ _ _ _ (e.grow g1 w1) h3 _ fun u I2 H2 g2 w2 r2 => ?_
    refine hr _ _ _ _ _ _ _ _ g2.s2 (.lst (g2.s1 _ _ hI) (rl.mono g2.s1)) r2 h4 _ fun t I3 H3 g3 r3 => ?_
    exact q t I3 H3 ((g1.tr w1 g2).tr w2 g3.up) (w2.gr g3) r3
  | _ => cases h
def rCntB (K : PySem.W.Frag) : V → List V → Hp → VK → Prop := fun x xs H Q => ∃ (p : Addr) (bs : List Bool) (b : Bool), x = .ref p ∧ xs = [.bl b] ∧ SqL K H p (bs.map V.bl) ∧ Q (.int (bs.count b : Nat)) H
theorem flat_bls (bs : List Bool) : (bs.map V.bl).all flatV = true := List.all_eq_true.mpr fun v hv => by
  obtain ⟨b, _, rfl⟩ := List.mem_map.mp hv
  rfl
theorem cnt_bls {b : Bool} : ∀ {us : List Value} {bs : List Bool}, Vals (bs.map V.bl) us → us.countP (eqU (.bl b)) = bs.count b
  | _, [], .nil => rfl
  | _, x :: bs, .cons r t => by
    have ih := cnt_bls (b := b) t
    rw [List.countP_cons, List.count_cons, ih, eqU_of r rfl]
    rfl
theorem mt_countB {X : Cx} : MtR X "list.count" (rCntB X.K) := by
  intro pins s σ H x xs v us Q I rx rxs h
  obtain ⟨p, bs, b, rfl, rfl, hs, q⟩ := h
  cases rx
  cases rxs with
  | cons ry rt =>
    rename_i uy ut
    cases rt
    obtain ⟨its, rv, ⟨⟨cls, dd, data, sl⟩, n, ho, hc, hdn, hd⟩, hlen⟩ := I.list hs
    simp only at hc hd
    subst hc hd
    refine call_meets PySem.F.slot_list_count ⟨_, ho, rfl⟩ PySem.F.entry_list_count (PySem.F.args_list_count_2 _ _)
      (SeqAt.list_countAt p its.toArray n dd sl uy (eqU (.bl b))) ⟨ho, fun u' hu' => mem_eqAt ry rfl rv (flat_bls bs) u' (by simpa using hu'), ?_⟩
    have ec : its.toArray.toList.countP (eqU (.bl b)) = bs.count b := cnt_bls rv
    refine ⟨.int (bs.count b : Nat), H, I.tok _, ⟨s.toks, ?_⟩, q⟩
    show Value.int ((its.toArray.toList.countP (eqU (.bl b)) : Nat) : Int) s.toks = Value.int ((bs.count b : Nat) : Int) s.toks
    rw [ec]
theorem sm_countB {K : Kx} : SndML K (rCntB K) blCntD := fun c I H x xs d ds z s rx rl h Q q => by
  unfold blCntD at h
  split at h
  · rename_i ds0 b
    obtain ⟨bs, h1, h2⟩ := map_some_of h
    cases h2
    cases rx with
    | lst hI r =>
      have ev := r.bls h1
      subst ev
      cases rl with
      | cons r1 r2 => cases r2; cases r1; exact ⟨_, bs, b, rfl, rfl, lst_sq s hI, q _ _ _ (.refl s) (.int _)⟩
  · cases h
theorem idx_bls {b : Bool} : ∀ {bs : List Bool} {j : Nat}, bs.idxOf? b = some j → bs[j]? = some b ∧ ∀ (m : Nat) (x : Bool), m < j → bs[m]? = some x → (x == b) = false
  | [], j, h => by cases h
  | x :: bs, j, h => by
    rw [List.idxOf?_cons] at h
    split at h
    · rename_i hx
      cases h
      exact ⟨by rw [eq_of_beq hx]; rfl, fun m x hm => absurd hm (Nat.not_lt_zero _)⟩
    · rename_i hx
      obtain ⟨k, h1, h2⟩ := map_some_of h
      cases h2
      obtain ⟨z1, z2⟩ := idx_bls h1
      refine ⟨z1, fun m y hm hy => ?_⟩
      cases m with
      | zero => cases hy; simpa using hx
      | succ m => exact z2 m y (Nat.lt_of_succ_lt_succ hm) hy
theorem sm_idxB {K : Kx} : SndML K (rIndex K) blIxD := fun c I H x xs d ds z s rx rl h Q q => by
  unfold blIxD at h
  split at h
  · rename_i ds0 b
    obtain ⟨bs, h1, h2⟩ := bind_some_of h
    split at h2
    · rename_i j hj
      cases h2
      cases rx with
      | lst hI r =>
        have ev := r.bls h1
        subst ev
        obtain ⟨z1, z2⟩ := idx_bls hj
        cases rl with
        | cons r1 r2 =>
          cases r2; cases r1
          refine ⟨_, bs.map V.bl, .bl b, j, .bl b, rfl, rfl, lst_sq s hI, rfl, flat_bls bs, by rw [List.getElem?_map, z1]; rfl, by show (b == b) = true; exact beq_self_eq_true b, fun m z' hm hz => ?_, q _ _ _ (.refl s) (.int _)⟩
          rw [List.getElem?_map] at hz
          obtain ⟨x, hx, rfl⟩ := map_some_of hz
          exact z2 m x hm hx
    · cases h2
  · cases h
section
variable {X : Cx} {o e : Expr} {es : List Expr} {to : TE} {tx : TA} {dx : Dn} {ax : Da} {apos cpos : Pos}
theorem ee_bmL {name : Str} {id : String} {r : V → List V → Hp → VK → Prop} {f : D → List D → Option D} (slot : Slot "list" name id) (hty : typeOf (.builtin id) = pure (.type "method_descriptor")) (hm : MtR X id r) (hr : SndML X.kx r f) (ho : EE X o to dx) (ha : EA X (e :: es) tx ax)
    (hbase : attributeBase o name X.env (eval o X.env) = eval o X.env := by rfl)
    (hfew : ((backTo cpos (starEach (e :: es) X.env)).all (fun x => !x.1) && (backToKw cpos (keywordEach [] X.env)).all (fun x => x.1.isSome) && decide ((e :: es).length + ([] : List Keyword).length + (if ([] : List Keyword).isEmpty then 0 else 1) < 30)) = true := by rfl)
    (hline : (apos.endLine == cpos.line) = true := by rfl) (hs : starEach (e :: es) X.env = (false, eval e X.env) :: starEach es X.env := by rfl) (hplain : (backTo cpos (starEach es X.env)).any (fun z => z.1) = false := by rfl) :
    EE X (.Call (.Attribute o name apos) (e :: es) [] cpos) (tBM X.kx "list" r to tx) (dMethL f dx ax) :=
  ⟨pe_bm PySem.F.plainAttrs_list slot hty hm ho.p ha.p hbase hfew hline hs hplain, sn_bmL ho.s ha.s hr⟩
end
end Dl
end
section
set_option Elab.async false
set_option linter.all false
set_option maxRecDepth 100000
set_option maxHeartbeats 4000000
namespace Dl
open PySem PySem.Spec PyProof.Rows L2 StX RZ HotX
/-! C(e) of a class whose __init__ raises; what is not reached; tables of lambdas -/
section
variable {X : Cx} {CX : CXT} {k : Nat} {f C : Addr} {fd : FuncData} {ps : List Str} {sp : Sp} {E : L2.St → XK} {x : Str} {p pos : Pos} {e : Expr} {es : List Expr} {t : TA}
theorem run_makeS {pins : List (Addr × Obj)} {σ : L2.St} {H : Hp} {s : Shared} {Q : VK} {us : List Value} {vs : List V} (M : Mk X.K C f) (F : FnOk X.prog X.w X.K X.mg X.base CX k f fd ps sp) (hr : Room (k + 1) X.A) (hb : Binds X.K fd ps [])
    (hx : PassesAt CX X σ (E σ)) (I : Inv X pins σ H s) (r : Vals vs us)
    (h : ∀ x dx, H x = none → H dx = none → dx ≠ x → sp (.ref x :: vs) (upd (upd H dx (.own x)) x (.ins C dx [])) (fun v H2 => v = .non ∧ Q (.ref x) H2) (E σ)) :
    wpAny (model X.prog X.w) X.A (call (.ref C) us) (EP X pins σ Q) X.xe s := by
  have hq := h (s.heap.objs.size + 1) s.heap.objs.size (I.hok.fresh (Nat.le_succ _)) (I.hok.fresh (Nat.le_refl _)) (Nat.ne_of_lt (Nat.lt_succ_self _))
  have I2 := Inv.made (C := C) I
  have r2 : Vals (V.ref (s.heap.objs.size + 1) :: vs) (Value.ref (s.heap.objs.size + 1) :: us) := .cons rfl r
  have hl : (Value.ref (s.heap.objs.size + 1) :: us).length = ps.length := by
    have e := r2.length
    rw [F.len _ _ _ _ hq] at e
    exact e.symm
  refine wpAny_call (make_map (f := f) I.kIn M.makes M.init (beq_iff_eq.mp M.fn) (codeAny_mono (F.run _ X.stack _ _ ⟨Value.ref (s.heap.objs.size + 1) :: us, []⟩ (Value.ref (s.heap.objs.size + 1) :: us) _ _ (E σ) (hr.make C us [])
    (I2.env0.make C us []) (by have z := hb _ (Value.ref (s.heap.objs.size + 1) :: us) I2.kIn (by rw [List.append_nil]; exact hl); rw [List.append_nil] at z; exact z) r2 hq) fun r s' hq' => ?_))
  cases r with
  | error e => exact hx pins _ _ e s' I2 hq'
  | ok fl =>
    cases fl with
    | ret u =>
      obtain ⟨v, H', I3, rv, ev, q3⟩ := I2.after hq'
      subst ev
      exact ⟨rv, ⟨V.ref (s.heap.objs.size + 1), H', I3, rfl, q3⟩⟩
    | next => exact False.elim hq'
    | brk => exact False.elim hq'
    | cont => exact False.elim hq'
def tMakeS (C : Addr) (sp : Sp) (E : L2.St → XK) (t : TA) : TE := fun σ H Q => t σ H fun vs H1 => ∀ x dx, H1 x = none → H1 dx = none → dx ≠ x → sp (.ref x :: vs) (upd (upd H1 dx (.own x)) x (.ins C dx [])) (fun v H2 => v = .non ∧ Q (.ref x) H2) (E σ)
theorem pe_makeS (M : Mk X.K C f) (F : FnOk X.prog X.w X.K X.mg X.base CX k f fd ps sp) (hr : Room (k + 1) X.A) (hg : Gl X x) (hm : X.mg x = some (.ref C)) (hb : Binds X.K fd ps []) (hx : ∀ σ, PassesAt CX X σ (E σ))
    (ha : PA X (e :: es) t) (hdb : (x == ("__debug__" : Str)) = false := by decide) (he : starEach (e :: es) X.env = (false, eval e X.env) :: starEach es X.env := by rfl) (hpl : (backTo pos (starEach es X.env)).any (fun z => z.1) = false := by rfl) :
    PE X (.Call (.Name x p) (e :: es) [] pos) (tMakeS C sp E t) := by
  refine ⟨fun pins s σ H Q I h => ?_⟩
  refine wpAny_Call_Name_kw (ld_glob I hg hm ?_ hdb)
  refine PySem.W.callWith_K (h₀ := X.base) I.ok.mod.kin M.kp (thn (ha.run pos pins s σ H _ I h) fun us s1 ⟨vs, H1, I1, r, q⟩ => ⟨I1.kIn, ?_⟩) he hpl
  exact run_makeS M F hr hb (hx σ) I1 r q
end
/-- where __init__ raises: what it does is not of its first argument -/
def dMakeX (f : Fnx) (ax : Da) : Dxe := fun ρ s => (ax ρ s).bind fun p => match p.1 with
  | [w] => (f [.fn .non, w] p.2).bind fun r => match r.1 with
    | .inl _ => none
    | .inr x => some (.inr x, r.2)
  | _ => none
theorem Gr.less {c : Option Addr} {I H H2 I' H' : Hp} (g : Gr c I H2 I' H') (k : ∀ a o, H a = some o → H2 a = some o) : Gr c I H I' H' :=
  ⟨g.s1, g.s2, fun a o n e => g.kp a o n (k a o e), fun a h => (g.nw a h).imp id fun z => by
    cases q : H a with
    | none => rfl
    | some o => rw [k a o q] at z; cases z⟩
theorem sxe_make {K : Kx} {W : WX} {C : Addr} {f : Fnx} {tx : TA} {ax : Da} (hx : SndA K tx ax) (hf : ∀ (v v' : V) (w : D) (s : Tau), f [.fn v, w] s = f [.fn v', w] s) : SndXE K W (tMakeS C (spR K 2 f) (WE W) tx) (dMakeX f ax) := fun c I H σ ρ s r s' e h Q q => by
  obtain ⟨⟨ds, s1⟩, h1, h⟩ := bind_some_of h
  refine hx _ _ _ _ _ _ _ _ e h1 _ fun vs I1 H1 g1 w1 r1 => fun x dx nx ndx hne => ?_
  split at h
  · rename_i w hw
    have hw : ds = [w] := hw
    subst hw
    obtain ⟨⟨r2, s2⟩, h2, h⟩ := bind_some_of h
    cases r2 with
    | inl z => cases h
    | inr ex =>
      cases h
      have keep : ∀ a o, H1 a = some o → upd (upd H1 dx (.own x)) x (.ins C dx []) a = some o := fun a o z => by rw [upd_ne (ne_of_none z nx), upd_ne (ne_of_none z ndx)]; exact z
      have hw0 : vs.length = 1 := r1.length
      refine ⟨by rw [List.length_cons, hw0], c, I1, [.fn (.ref x), w], s1, .inr ex, s2, .cons (.fn _) r1, ?_, ?_, (hf _ .non _ _).trans h2, ?_⟩
      · exact (g1.s2.updH (g1.s2.free ndx)).updH (g1.s2.free nx)
      · intro rr hr
        obtain ⟨z1, sc, z2, z3⟩ := w1 rr hr
        exact ⟨z1, sc, keep _ _ z2, z3⟩
      · exact fun I' H' cls d g w' rx => q I' H' cls d (g1.tr w1 (g.less keep)) w' rx
  · cases h
/-- a class whose __init__ may raise: all that is asked of it -/
structure Ck (CX : CXT) (P : Program) (w : World) (K : PySem.W.Frag) (mg : Str → Option Value) (base : Heap) (k : Nat) (x : Str) (fn : Fnx) : Prop where
  h : ∃ (f : Addr) (fd : FuncData) (ps : List Str), ps.length = 2 ∧ Mk K (He.ga K x) f ∧ FnOk P w K mg base CX k f fd ps (spR ⟨K, P, w⟩ 2 fn) ∧ mg x = some (.ref (He.ga K x)) ∧ Binds K fd ps []
theorem exe_make {X : Cx} {W : WX} {CX : CXT} {j k : Nat} {x : Str} {p pos : Pos} {fn : Fnx} {e : Expr} {tx : TA} {ax : Da} (F : Ck CX X.prog X.w X.K X.mg X.base k x fn) (hf : ∀ (v v' : V) (w : D) (s : Tau), fn [.fn v, w] s = fn [.fn v', w] s) (hr : Room j X.A) (hk : k + 1 ≤ j) (hx : ∀ σ, PassesAt CX X σ (WE W σ)) (hg : Gl X x) (ha : EA X [e] tx ax)
    (hdb : (x == ("__debug__" : Str)) = false := by decide) (he : starEach [e] X.env = (false, eval e X.env) :: starEach [] X.env := by rfl) (hpl : (backTo pos (starEach [] X.env)).any (fun z => z.1) = false := by rfl) :
    EXe X W (.Call (.Name x p) [e] [] pos) (tMakeS (He.ga X.K x) (spR X.kx 2 fn) (WE W) tx) (dMakeX fn ax) := by
  obtain ⟨f, fd, ps, hn, M, G, gm, b⟩ := F.h
  exact ⟨pe_makeS M G (hr.mono hk) hg gm b hx ha.p hdb he hpl, sxe_make ha.s hf⟩
/-! what is not reached -/
def dxNever : Dxs := fun _ _ => none
theorem sx_never {K : Kx} {W : WX} : SndX K W tNever dxNever := fun c I0 H0 I H σ ρ s o s' e h D q => by cases h
theorem exs_never {X : Cx} {W : WX} {st : List Stmt} : EXs X W st tNever dxNever := ⟨pss_never, sx_never⟩
/-! tables of lambdas -/
structure LamTab (X : Cx) (k : Nat) (T : List (Nat × Dxe)) (TT : List (LamT × (XK → TE))) : Prop where
  hT : ∀ q ∈ T, ∃ t te, (t, te) ∈ TT ∧ LamX8 X k q.1 t te q.2
  hTT : ∀ q ∈ TT, LamD X k q.1 q.2
theorem tabs_nil {X : Cx} {k : Nat} : LamTab X k [] [] := ⟨fun _ h => (by cases h), fun _ h => (by cases h)⟩
theorem tabs_cons {X : Cx} {k n : Nat} {t : LamT} {te : XK → TE} {dx : Dxe} {T : List (Nat × Dxe)} {TT : List (LamT × (XK → TE))} (h : LamX8 X k n t te dx) (r : LamTab X k T TT) : LamTab X k ((n, dx) :: T) ((t, te) :: TT) :=
  ⟨fun q hq => (List.mem_cons.mp hq).elim (fun z => by rw [z]; exact ⟨t, te, List.mem_cons_self, h⟩) fun z => by
    obtain ⟨t', te', a, b⟩ := r.hT q z
    exact ⟨t', te', List.mem_cons_of_mem _ a, b⟩, fun q hq => (List.mem_cons.mp hq).elim (fun z => by rw [z]; exact h.d) (r.hTT q)⟩
end Dl
end
section
set_option Elab.async false
set_option linter.all false
set_option maxRecDepth 100000
set_option maxHeartbeats 4000000
namespace Dl
open PySem PySem.Spec PyProof.Rows L2 StX RZ HotX
/-! facts of a class with an index, as a test of K -/
def ecB (K : PySem.W.Frag) (C : Addr) : Bool :=
  ((bltB "BaseException.__getattribute__" (PySem.W.findIn K (.ref C) "__getattribute__") && nonB (PySem.W.findIn K (.ref C) "__getattr__")) && (trB (PySem.W.subIn K (.ref C) (.type "BaseException")) && (PySem.W.hasDictIn K C && bltB "object.__class__" (PySem.W.findIn K (.ref C) "__class__")))) &&
  ((bltB "getset_descriptor.__get__" (PySem.W.specialIn K (.builtin "object.__class__") "__get__") && trB (PySem.W.takesIn K (.builtin "object.__class__"))) && trB (PySem.W.mroIn K C (.type "object")))
theorem ecB_ok {K : PySem.W.Frag} {C : Addr} (h : ecB K C = true) : ExcC K C := by
  unfold ecB at h
  obtain ⟨h1, h2⟩ := Bool.and_eq_true_iff.mp h
  obtain ⟨a, b⟩ := Bool.and_eq_true_iff.mp h1
  obtain ⟨a1, a2⟩ := Bool.and_eq_true_iff.mp a
  obtain ⟨b1, b2⟩ := Bool.and_eq_true_iff.mp b
  obtain ⟨b3, b4⟩ := Bool.and_eq_true_iff.mp b2
  obtain ⟨c1, c2⟩ := Bool.and_eq_true_iff.mp h2
  obtain ⟨c3, c4⟩ := Bool.and_eq_true_iff.mp c1
  exact ⟨bltB_ok a1, nonB_ok a2, trB_ok b1, b3, bltB_ok b4, bltB_ok c3, trB_ok c4, trB_ok c2⟩
theorem xf_of {K : PySem.W.Frag} {C : Addr} (E : ExcC K C) : XfC K C := ⟨E.hg, E.hk, E.hs, E.hd⟩
open LamX (CodeO TabB lamEnv lamCx)
section
variable {X : Cx} {params : Arguments} {body suite : List Stmt} {b₀ : Stmt} {scope : Scope} {g : Addr} {fd : FuncData} {x a en vx : Str} {Ng : List Str} {k j : Nat} {cV : Value} {T : List (Nat × Dxe)} {NM : List (Str × Bool)} {tsu : Str → Addr → Option Addr → TS} {dsu : Dsu} {e : Expr} {ta : TE} {da : Dn} {p p1 p2 p3 p4 p5 p6 p7 p8 pos : Pos}
theorem ee_toldT {TT : List (LamT × (XK → TE))} (F : FunD X.K x x params body scope [] [] g fd) (hbody : body = [.Try [.Expr (.Call (.Name a p1) [] [] p2) p3] [.ExceptHandler (some (.Name vx p4)) (some en) (b₀ :: suite) p5] [] [] p6, .Return (some (.Constant (.str "") j p7)) p8])
    (S : FnScope Ng [a] scope) (hN0 : Ng[0]? = some a) (hva : Vis scope a) (hN1 : Ng[1]? = some en) (hen : scope.names.lookup en = some .local) (hge : scope.names.lookup vx = some .globalImplicit) (hdv : (vx == ("__debug__" : Str)) = false) (hV : X.mg vx = some cV)
    (hq : X.env.qual ++ "<lambda>" = lamQ) (LT : LamTab X k T TT) (hx : ∀ q ∈ NM, PySem.W.exmOne X.K (.ref (He.ga X.K q.1)) cV = some true) (SU : Suites X NM Ng x scope g (b₀ :: suite) tsu dsu)
    (hr : Room (k + 2) X.A) (hg : Gl X x) (hm : X.mg x = some (.ref g)) (hk : PySem.W.keepIn X.K (.ref g) = true) (b : Binds X.K fd [a] []) (ha : EE X e ta da)
    (hdb : (x == ("__debug__" : Str)) = false := by decide) (hda : (a == ("__debug__" : Str)) = false := by decide) (hca : (a == ("__classdict__" : Str)) = false := by decide)
    (he : starEach [e] X.env = (false, eval e X.env) :: starEach [] X.env := by rfl) (hpl : (backTo pos (starEach [] X.env)).any (fun z => z.1) = false := by rfl) :
    EE X (.Call (.Name x p) [e] [] pos) (tTold X.K X.env.cells TT cV Ng (tSuN X.K NM tsu) ta) (dTold T X.env.cells NM Ng.length dsu da) :=
  ⟨pe_told F hbody S hN0 hva hN1 hen hge hdv hV hq LT.hTT SU.p hr hg hm hk b ha.p hdb hda hca he hpl, sn_told LT.hT hx (List.getElem?_eq_some_iff.mp hN1).1 SU.s ha.s⟩
end
theorem hf_of {fx : Fnx} (v v' : V) (w : D) (s : Tau) : dxFn 2 (dxSeq (dxExpr (dCallR fx (dCons (dVar 1) dNil))) dxNever) [.fn v, w] s = dxFn 2 (dxSeq (dxExpr (dCallR fx (dCons (dVar 1) dNil))) dxNever) [.fn v', w] s := by
  have e : ∀ v, dxFn 2 (dxSeq (dxExpr (dCallR fx (dCons (dVar 1) dNil))) dxNever) [.fn v, w] s = (fx [w] s).bind fun r => match r.1 with
    | .inl _ => none
    | .inr x => some (.inr x, r.2) := fun v => by
    have e1 : dCallR fx (dCons (dVar 1) dNil) [.im (.fn v), .im w] s = (fx [w] s).map fun r => match r.1 with
      | .inl d => (.inl d.1, r.2)
      | .inr x => (.inr x, r.2) := rfl
    show (dxSeq (dxExpr (dCallR fx (dCons (dVar 1) dNil))) dxNever [.im (.fn v), .im w] s).bind _ = _
    unfold dxSeq dxExpr
    rw [e1]
    cases fx [w] s with
    | none => rfl
    | some r =>
      obtain ⟨r, s1⟩ := r
      cases r <;> rfl
  rw [e v, e v']
end Dl
end
section
set_option Elab.async false
set_option linter.all false
set_option maxRecDepth 100000
set_option maxHeartbeats 4000000
namespace Dl
open PySem PySem.Spec PyProof.Rows L2 StX RZ HotX
/-! an object of the class Desk, while it is not written: fields, properties, methods -/
def fldD (C : Addr) (k : Nat) : D → Option D
  | .dsk C' w r a => if C' = C then (match k with
    | 0 => some w
    | 1 => some r
    | 2 => some a
    | _ => none) else none
  | _ => none
def fldN : Nat → Str
  | 0 => "_way"
  | 1 => "_row"
  | _ => "_answer"
theorem ins_at {K : Kx} {I H : Hp} {p C dx : Addr} {fs : List (Str × V)} (s : Sub I H) (h : I p = some (.ins C dx fs)) : H p = some (.ins C dx fs) := s.get h (fun kvs z => by cases z) (fun ps z => by cases z)
theorem sn_fld {K : Kx} {C : Addr} {to : TE} {dx : Dn} (k : Nat) (hc : Cls K.f C) (hn : NoAttr K.f C (fldN k)) (h0 : SndE K to dx) : SndE K (tFld K.f to (fldN k)) (dUn (fldD C k) dx) := fun c I H σ ρ s d s' e h Q q => by
  obtain ⟨⟨x, s1⟩, h1, h⟩ := bind_some_of h
  obtain ⟨z, h2, h⟩ := map_some_of h
  cases h
  refine h0 _ _ _ _ _ _ _ _ e h1 _ fun v I1 H1 g1 w1 r1 => ?_
  have h2 : fldD C k x = some _ := h2
  unfold fldD at h2
  split at h2
  · rename_i C' w r a
    split at h2
    · rename_i hC
      subst hC
      cases r1 with
      | @dsk p _ dx vw vr va _ _ _ hI rw rr ra =>
        have hH := ins_at (K := K) g1.s2 hI
        match k, h2 with
        | 0, h2 => cases h2; exact ⟨p, _, dx, _, vw, rfl, hH, hc, hn, rfl, q _ _ _ g1 w1 rw⟩
        | 1, h2 => cases h2; exact ⟨p, _, dx, _, vr, rfl, hH, hc, hn, by rfl, q _ _ _ g1 w1 rr⟩
        | 2, h2 => cases h2; exact ⟨p, _, dx, _, va, rfl, hH, hc, hn, by rfl, q _ _ _ g1 w1 ra⟩
        | k + 3, h2 => cases h2
    · cases h2
  · cases h2
section
variable {X : Cx} {C : Addr} {o : Expr} {to : TE} {dx : Dn} {pos : Pos}
theorem ee_fld (k : Nat) (hc : Cls X.K C) (hn : NoAttr X.K C (fldN k)) (ho : EE X o to dx) (hb : attributeBase o (fldN k) X.env (eval o X.env) = eval o X.env := by rfl) : EE X (.Attribute o (fldN k) pos) (tFld X.K to (fldN k)) (dUn (fldD C k) dx) :=
  ⟨pe_fld ho.p hb, sn_fld (K := X.kx) k hc hn ho.s⟩
end
/-- a property that is read -/
def dProp (C : Addr) (f : Fn) (dx : Dn) : Dn := fun ρ s => (dx ρ s).bind fun p => match p.1 with
  | .dsk C' w r a => if C' = C then (f [.dsk C' w r a] p.2).map fun r => (r.1.1, r.2) else none
  | _ => none
/-- the end of a call: what is owned is shared -/
theorem res_end {K : Kx} {c : Option Addr} {I H I1 H1 : Hp} {s1 s' : Tau} {d : D} {o : Bool} {Q : VK} (g1 : Gr c I H I1 H1) (w1 : DW K c s1 I1 H1) (q : ∀ v I' H', Gr c I H I' H' → DW K c s' I' H' → Rep K c I' v d → Q v H') :
    ∀ v I' H', Gr c I1 H1 I' H' → DW K c s' I' H' → ResOk K c I' H' H1 v d o → Q v H' := fun v I' H' g w r => by
  cases o with
  | false => exact q v I' H' (g1.tr w1 g) w r
  | true =>
    obtain ⟨p, rfl, hp, hn⟩ := r
    obtain ⟨u, hI, hc, hH, hs, sb, rp⟩ := hp.freeze g.s2
    refine q _ (upd I' p u) H' (g1.tr w1 ⟨g.s1.trans sb, hs, g.kp, fun a z => ?_⟩) (w.more hc hI) rp
    by_cases n : a = p
    · subst n; exact .inr hn
    · rw [upd_ne n] at z; exact g.nw a z
theorem sn_prop {K : Kx} {C : Addr} {f : Fn} {to : TE} {dx : Dn} (h0 : SndE K to dx) : SndE K (tProp C (spG K 1 f) [] E0 to) (dProp C f dx) := fun c I H σ ρ s d s' e hh Q q => by
  obtain ⟨⟨x, s1⟩, h1, h⟩ := bind_some_of hh
  clear hh
  refine h0 _ _ _ _ _ _ _ _ e h1 _ fun v I1 H1 g1 w1 r1 => ?_
  cases r1 with
  | @dsk p C' dx vw vr va w r a hI rw rr ra =>
    dsimp only at h
    split at h
    · rename_i hC
      subst hC
      obtain ⟨⟨⟨d1, o⟩, s2⟩, h2, h⟩ := map_some_of h
      cases h
      exact ⟨p, dx, _, rfl, ins_at (K := K) g1.s2 hI, rfl, c, I1, [.dsk C' w r a], s1, _, o, _, .cons (.dsk hI rw rr ra) .nil, g1.s2, w1, h2, res_end g1 w1 q⟩
    · cases h
  | _ => cases h
structure Pd (P : Program) (w : World) (K : PySem.W.Frag) (mg : Str → Option Value) (base : Heap) (k : Nat) (C : Addr) (x : Str) (fn : Fn) : Prop where
  cls : Cls K C
  h : ∃ (p g : Addr) (fd : FuncData) (ps : List Str), ps.length = 1 ∧ PropOf K C x p g ∧ FnOk P w K mg base CX0 k g fd ps (spG ⟨K, P, w⟩ 1 fn) ∧ Binds K fd ps []
theorem ee_prop {X : Cx} {j k : Nat} {C : Addr} {x : Str} {fn : Fn} {o : Expr} {to : TE} {dx : Dn} {pos : Pos} (F : Pd X.prog X.w X.K X.mg X.base k C x fn) (hr : Room j X.A) (hk : k + 1 ≤ j) (ho : EE X o to dx) (hb : attributeBase o x X.env (eval o X.env) = eval o X.env := by rfl) :
    EE X (.Attribute o x pos) (tProp C (spG X.kx 1 fn) [] E0 to) (dProp C fn dx) := by
  obtain ⟨p, g, fd, ps, hn, hp, G, b⟩ := F.h
  exact ⟨pe_prop ho.p F.cls hp G (hr.mono hk) b .nil pass0 hb, sn_prop (K := X.kx) ho.s⟩
/-! methods -/
def fsM (C : Addr) (m : Str) : Prop := m ≠ "_way" ∧ m ≠ "_row" ∧ m ≠ "_answer"
theorem fs_none {m : Str} {vw vr va : V} (h : (m == ("_way" : Str)) = false ∧ (m == ("_row" : Str)) = false ∧ (m == ("_answer" : Str)) = false) : ([("_way", vw), ("_row", vr), ("_answer", va)] : List (Str × V)).lookup m = none := by
  obtain ⟨h1, h2, h3⟩ := h
  rw [List.lookup_cons, h1]
  show List.lookup m [("_row", vr), ("_answer", va)] = none
  rw [List.lookup_cons, h2]
  show List.lookup m [("_answer", va)] = none
  rw [List.lookup_cons, h3]; rfl
def dMth (C : Addr) (f : Fn) (dx : Dn) (ax : Da) : Dn := fun ρ s => (dx ρ s).bind fun p => match p.1 with
  | .dsk C' w r a => if C' = C then (ax ρ p.2).bind fun q => (f (.dsk C' w r a :: q.1) q.2).map fun r => (r.1.1, r.2) else none
  | _ => none
theorem sn_meth {K : Kx} {C : Addr} {n : Nat} {m : Str} {f : Fn} {to : TE} {tx : TA} {dx : Dn} {ax : Da} (h0 : SndE K to dx) (hx : SndA K tx ax) (hl : ∀ ρ s ds s', ax ρ s = some (ds, s') → ds.length = n) (hm : (m == ("_way" : Str)) = false ∧ (m == ("_row" : Str)) = false ∧ (m == ("_answer" : Str)) = false) :
    SndE K (tMeth C m (spG K (n + 1) f) [] E0 to tx) (dMth C f dx ax) := fun c I H σ ρ s d s' e hh Q q => by
  obtain ⟨⟨x, s1⟩, h1, h⟩ := bind_some_of hh
  clear hh
  refine h0 _ _ _ _ _ _ _ _ e h1 _ fun v I1 H1 g1 w1 r1 => ?_
  cases r1 with
  | @dsk p C' dx vw vr va w r a hI rw rr ra =>
    dsimp only at h
    split at h
    · rename_i hC
      subst hC
      obtain ⟨⟨ds, s2⟩, h2, h⟩ := bind_some_of h
      obtain ⟨⟨⟨d1, o⟩, s3⟩, h3, h⟩ := map_some_of h
      cases h
      refine ⟨p, dx, _, rfl, ins_at (K := K) g1.s2 hI, fs_none hm, ?_⟩
      refine hx _ _ _ _ _ _ _ _ (e.grow g1 w1) h2 _ fun vs I2 H2 g2 w2 r2 => ?_
      have rd := (Rep.dsk hI rw rr ra : Rep K c I1 _ _).mono g2.s1
      rw [List.append_nil]
      exact ⟨by rw [List.length_cons, r2.length.trans (hl _ _ _ _ h2)], c, I2, .dsk C' w r a :: ds, s2, _, o, _, .cons rd r2, g2.s2, w2, h3, res_end (g1.tr w1 g2) w2 q⟩
    · cases h
  | _ => cases h
/-- a method that answers -/
structure Md (P : Program) (w : World) (K : PySem.W.Frag) (mg : Str → Option Value) (base : Heap) (k : Nat) (C : Addr) (x : Str) (n : Nat) (sp : Kx → Sp) : Prop where
  cls : Cls K C
  h : ∃ (g : Addr) (fd : FuncData) (ps : List Str), ps.length = n ∧ Meth K C x g ∧ FnOk P w K mg base CX0 k g fd ps (sp ⟨K, P, w⟩) ∧ Binds K fd ps []
theorem ee_meth {X : Cx} {j k n : Nat} {C : Addr} {x : Str} {fn : Fn} {o e : Expr} {es : List Expr} {to : TE} {tx : TA} {dx : Dn} {ax : Da} {pos apos : Pos} {pl : Sem Bool} (F : Md X.prog X.w X.K X.mg X.base k C x (n + 1) (fun K => spG K (n + 1) fn)) (hr : Room j X.A) (hk : k ≤ j) (ho : EE X o to dx) (ha : EA X (e :: es) tx ax) (hl : ∀ ρ s ds s', ax ρ s = some (ds, s') → ds.length = n)
    (hm : (x == ("_way" : Str)) = false ∧ (x == ("_row" : Str)) = false ∧ (x == ("_answer" : Str)) = false := by decide)
    (hst : starEach (e :: es) X.env = (false, eval e X.env) :: starEach es X.env := by rfl) (hpl : (backTo pos (starEach es X.env)).any (fun z => z.1) = false := by rfl)
    (ht : eval (.Call (.Attribute o x apos) (e :: es) [] pos) X.env = (do
      let ov ← eval o X.env
      standAt apos.atName
      let (f, first) ← holding [ov] (getMethod ov x pl)
      callWith pos f first (backTo pos (starEach (e :: es) X.env)) (backToKw pos (keywordEach [] X.env))) := by rfl) :
    EE X (.Call (.Attribute o x apos) (e :: es) [] pos) (tMeth C x (spG X.kx (n + 1) fn) [] E0 to tx) (dMth C fn dx ax) := by
  obtain ⟨g, fd, ps, hn, M, G, b⟩ := F.h
  exact ⟨pe_meth (pl := pl) ho.p F.cls M G (hr.mono hk) b .nil pass0 ha.p hst hpl ht, sn_meth (K := X.kx) ho.s ha.s hl hm⟩
end Dl
end
section
set_option Elab.async false
set_option linter.all false
set_option maxRecDepth 100000
set_option maxHeartbeats 4000000
namespace Dl
open PySem PySem.Spec PyProof.Rows L2 StX RZ HotX
/-! what is known, less one object -/
def less (I : Hp) (p : Addr) : Hp := fun a => if a = p then none else I a
theorem less_ne {I : Hp} {p a : Addr} (h : a ≠ p) : less I p a = I a := if_neg h
theorem less_same {I : Hp} {p : Addr} : less I p p = none := if_pos rfl
theorem less_some {I : Hp} {p a : Addr} {o : HO} (h : less I p a = some o) : a ≠ p ∧ I a = some o := by
  by_cases z : a = p
  · subst z; rw [less_same] at h; cases h
  · rw [less_ne z] at h; exact ⟨z, h⟩
mutual
/-- no such object inside -/
def nod : D → Bool
  | .dsk _ _ _ _ => false
  | .tup xs => nodL xs
  | .ktp xs => nodL xs
  | .lst xs => nodL xs
  | .dS es => nodS es
  | .dT es => nodT es
  | .exi _ _ e => nod e
  | .non => true
  | .bl _ => true
  | .int _ => true
  | .str _ => true
  | .sl _ => true
  | .rw => true
  | .fn _ => true
  | .tb => true
  | .clo _ _ => true
termination_by structural d => d
def nodL : List D → Bool
  | [] => true
  | x :: xs => nod x && nodL xs
termination_by structural d => d
def nodS : List (Str × D) → Bool
  | [] => true
  | (_, x) :: xs => nod x && nodS xs
termination_by structural d => d
def nodT : List (List Str × D) → Bool
  | [] => true
  | (_, x) :: xs => nod x && nodT xs
termination_by structural d => d
end
section
variable {K : Kx} {c : Option Addr} {I : Hp} {p C dx : Addr} {fs : List (Str × V)}
theorem less_keep (hp : I p = some (.ins C dx fs)) {a : Addr} {o : HO} (h : I a = some o) (n : ∀ C dx fs, o ≠ .ins C dx fs) : less I p a = some o := by
  rw [less_ne]
  · exact h
  · intro z
    subst z
    rw [hp] at h
    cases h
    exact n _ _ _ rfl
theorem Rd.less_ {a : Addr} {o : HO} (hp : I p = some (.ins C dx fs)) (h : Rd I a o) (n : ∀ C dx fs, o ≠ .ins C dx fs) : Rd (less I p) a o := by
  rcases h with h | ⟨ob, h⟩
  · exact .inl (less_keep hp h n)
  · exact .inr ⟨ob, less_keep hp h (fun _ _ _ z => by cases z)⟩
theorem lamO_ins {a c' : Addr} {t : LamT} {cl : List (Str × Addr)} {dV : Value} : ∀ C dx fs, LamO a t cl c' dV ≠ .ins C dx fs := fun _ _ _ z => by
  have z' : HO.ext _ = HO.ins _ _ _ := z
  cases z'
theorem codeO_ins {a : Addr} {q : Str} : ∀ C dx fs, LamX.CodeO a q ≠ .ins C dx fs := fun _ _ _ z => by
  have z' : HO.ext _ = HO.ins _ _ _ := z
  cases z'
mutual
theorem Rep.less_ (hp : I p = some (.ins C dx fs)) : ∀ {v : V} {d : D}, Rep K c I v d → nod d = true → Rep K c (less I p) v d
  | _, _, .non, _ => .non
  | _, _, .bl b, _ => .bl b
  | _, _, .int b, _ => .int b
  | _, _, .str b, _ => .str b
  | _, _, .tup s z r, h => .tup (less_keep hp s (fun _ _ _ z => by cases z)) z (RepL.less_ hp r h)
  | _, _, .ktp s r, h => .ktp (s.imp (fun q => Rd.less_ hp q (fun _ _ _ z => by cases z)) id) (RepL.less_ hp r h)
  | _, _, .lst s r, h => .lst (less_keep hp s (fun _ _ _ z => by cases z)) (RepL.less_ hp r h)
  | _, _, .dS s r, h => .dS (less_keep hp s (fun _ _ _ z => by cases z)) (RepS.less_ hp r h)
  | _, _, .dT s r, h => .dT (less_keep hp s (fun _ _ _ z => by cases z)) (RepT.less_ hp r h)
  | _, _, .sl s, _ => .sl (s.imp (fun q => Rd.less_ hp q (fun _ _ _ z => by cases z)) id)
  | _, _, .rw e, _ => .rw e
  | _, _, .fn v, _ => .fn v
  | _, _, .tb v q, _ => .tb v fun cp e => less_keep hp (q cp e) (fun _ _ _ z => by cases z)
  | _, _, .clo e s z r, _ => .clo e (less_keep hp s lamO_ins) (less_keep hp z codeO_ins) (r.imp id fun ⟨n, T, a, b⟩ => ⟨n, T, a, less_keep hp b (fun _ _ _ z => by cases z)⟩)
  | _, _, .exi s r, h => .exi (less_keep hp s (fun _ _ _ z => by cases z)) (Rep.less_ hp r h)
  | _, _, .dsk _ _ _ _, h => by cases h
theorem RepL.less_ (hp : I p = some (.ins C dx fs)) : ∀ {vs : List V} {ds : List D}, RepL K c I vs ds → nodL ds = true → RepL K c (less I p) vs ds
  | _, _, .nil, _ => .nil
  | _, _, .cons a b, h => .cons (Rep.less_ hp a (Bool.and_eq_true_iff.mp h).1) (RepL.less_ hp b (Bool.and_eq_true_iff.mp h).2)
theorem RepS.less_ (hp : I p = some (.ins C dx fs)) : ∀ {vs : List (Key × V)} {ds : List (Str × D)}, RepS K c I vs ds → nodS ds = true → RepS K c (less I p) vs ds
  | _, _, .nil, _ => .nil
  | _, _, .cons a b, h => .cons (Rep.less_ hp a (Bool.and_eq_true_iff.mp h).1) (RepS.less_ hp b (Bool.and_eq_true_iff.mp h).2)
theorem RepT.less_ (hp : I p = some (.ins C dx fs)) : ∀ {ks : List (List Str × Addr)} {vs : List V} {ds : List (List Str × D)}, RepT K c I ks vs ds → nodT ds = true → RepT K c (less I p) ks vs ds
  | _, _, _, .nil, _ => .nil
  | _, _, _, .cons q a b, h => .cons (q.imp (fun z => Rd.less_ hp z (fun _ _ _ z => by cases z)) id) (Rep.less_ hp a (Bool.and_eq_true_iff.mp h).1) (RepT.less_ hp b (Bool.and_eq_true_iff.mp h).2)
end
/-- an owned object is read: it is known for a while -/
theorem Sub.less_ {H : Hp} (s : Sub I H) (hp : I p = some (.ins C dx fs)) : Sub (less I p) H := fun a o h => by
  obtain ⟨n, h⟩ := less_some h
  rcases s a o h with q | q | ⟨q1, ps, h1, h2, h3⟩
  · exact .inl q
  · exact .inr (.inl q)
  · refine .inr (.inr ⟨q1, ps, h1, h2, fun pos cv hc => ?_⟩)
    obtain ⟨c0, e1, e2⟩ := h3 pos cv hc
    exact ⟨c0, e1, less_keep hp e2 codeO_ins⟩
theorem DW.less_ {H : Hp} {s : Tau} (w : DW K c s I H) (hp : I p = some (.ins C dx fs)) : DW K c s (less I p) H := fun r hr => by
  obtain ⟨z1, sc, z2, z3⟩ := w r hr
  refine ⟨?_, sc, z2, z3.imp (fun q => Rd.less_ hp q (fun _ _ _ z => by cases z)) id⟩
  cases q : less I p r with
  | none => rfl
  | some o => rw [(less_some q).2] at z1; cases z1
theorem Gr.thaw {H I3 H3 : Hp} (hI : I p = none) (g : Gr c (upd I p (.ins C dx fs)) H I3 H3) : Gr c I H (Dl.less I3 p) H3 :=
  ⟨fun a o h => by
    have n : a ≠ p := ne_of_none h hI
    rw [less_ne n]
    exact g.s1 a o (by rw [upd_ne n]; exact h), g.s2.less_ (g.s1 p _ upd_same), g.kp, fun a h => by
    by_cases n : a = p
    · subst n; rw [less_same] at h; exact absurd rfl h
    · rw [less_ne n] at h
      rcases g.nw a h with z | z
      · rw [upd_ne n] at z; exact .inl z
      · exact .inr z⟩
end
end Dl
end
section
set_option Elab.async false
set_option linter.all false
set_option maxRecDepth 100000
set_option maxHeartbeats 4000000
namespace Dl
open PySem PySem.Spec PyProof.Rows L2 StX RZ HotX
/-! methods that may raise -/
def tMethS (C : Addr) (m : Str) (sp : Sp) (E : L2.St → XK) (ta : TE) (t : TA) : TE := fun σ H Q => ta σ H fun x H1 => ∃ a dx fs, x = .ref a ∧ H1 a = some (.ins C dx fs) ∧ fs.lookup m = none ∧ t σ H1 fun vs H2 => sp (x :: vs) H2 Q (E σ)
section
variable {X : Cx} {CX : CXT} {k : Nat} {f C : Addr} {fd : FuncData} {ps : List Str} {sp : Sp} {E : L2.St → XK} {m : Str} {pos apos : Pos} {o e : Expr} {es : List Expr} {ta : TE} {t : TA}
theorem pe_methS {pl : Sem Bool} (he : PE X o ta) (c : Cls X.K C) (hm : Meth X.K C m f) (F : FnOk X.prog X.w X.K X.mg X.base CX k f fd ps sp) (hr : Room k X.A) (hb : Binds X.K fd ps []) (hx : ∀ σ, PassesAt CX X σ (E σ)) (ha : PA X (e :: es) t)
    (hst : starEach (e :: es) X.env = (false, eval e X.env) :: starEach es X.env := by rfl) (hpl : (backTo pos (starEach es X.env)).any (fun z => z.1) = false := by rfl)
    (ht : eval (.Call (.Attribute o m apos) (e :: es) [] pos) X.env = (do
      let ov ← eval o X.env
      standAt apos.atName
      let (f, first) ← holding [ov] (getMethod ov m pl)
      callWith pos f first (backTo pos (starEach (e :: es) X.env)) (backToKw pos (keywordEach [] X.env))) := by rfl) :
    PE X (.Call (.Attribute o m apos) (e :: es) [] pos) (tMethS C m sp E ta t) := by
  refine ⟨fun pins s σ H Q I h => ?_⟩
  refine PySem.W.methodCall_KW (pl := pl) (thn (he.run pins s σ H _ I h) fun u s1 ⟨x, H1, I1, rx, a, dx, fs, ex, ea, l, q⟩ => ?_) ht
  subst ex
  obtain rfl : u = Value.ref a := rx
  refine getmeth_ok I1 ea c hm l ?_
  refine PySem.W.callWith_K (first := [.ref a]) (h₀ := X.base) I.ok.mod.kin hm.kp (thn (ha.run pos pins s1 σ H1 _ I1 q) fun us s2 ⟨vs, H2, I2, r, q2⟩ => ⟨I2.kIn, ?_⟩) hst hpl
  exact run_fnS (us := .ref a :: us) (vs := .ref a :: vs) F hr hb (hx σ) I2 (.cons rfl r) q2
theorem pe_meth0S {pl : Sem Bool} (he : PE X o ta) (c : Cls X.K C) (hm : Meth X.K C m f) (F : FnOk X.prog X.w X.K X.mg X.base CX k f fd ps sp) (hr : Room k X.A) (hb : Binds X.K fd ps []) (hx : ∀ σ, PassesAt CX X σ (E σ))
    (ht : eval (.Call (.Attribute o m apos) [] [] pos) X.env = (do
      let ov ← eval o X.env
      standAt apos.atName
      let (f, first) ← holding [ov] (getMethod ov m pl)
      callWith pos f first (backTo pos (starEach [] X.env)) (backToKw pos (keywordEach [] X.env))) := by rfl) :
    PE X (.Call (.Attribute o m apos) [] [] pos) (tMethS C m sp E ta tNil) := by
  refine ⟨fun pins s σ H Q I h => ?_⟩
  refine PySem.W.methodCall_KW (pl := pl) (thn (he.run pins s σ H _ I h) fun u s1 ⟨x, H1, I1, rx, a, dx, fs, ex, ea, l, q⟩ => ?_) ht
  subst ex
  obtain rfl : u = Value.ref a := rx
  refine getmeth_ok I1 ea c hm l ?_
  exact PySem.W.callWith_K0 (first := [.ref a]) I1.kIn hm.kp (run_fnS (us := [.ref a]) (vs := [.ref a]) F hr hb (hx σ) I1 (.cons rfl .nil) q)
end
def dMethR (C : Addr) (f : Fnx) (dx : Dn) (ax : Da) : Dxe := fun ρ s => (dx ρ s).bind fun p => match p.1 with
  | .dsk C' w r a => if C' = C then (ax ρ p.2).bind fun q => (f (.dsk C' w r a :: q.1) q.2).map fun r => match r.1 with
    | .inl d => (.inl d.1, r.2)
    | .inr x => (.inr x, r.2)
    else none
  | _ => none
/-- where it answers -/
def dMethA (C : Addr) (f : Fnx) (dx : Dn) (ax : Da) : Dn := fun ρ s => (dMethR C f dx ax ρ s).bind fun r => match r.1 with
  | .inl d => some (d, r.2)
  | .inr _ => none
theorem sxe_meth {K : Kx} {W : WX} {C : Addr} {n : Nat} {m : Str} {f : Fnx} {to : TE} {tx : TA} {dx : Dn} {ax : Da} (h0 : SndE K to dx) (hx : SndA K tx ax) (hl : ∀ ρ s ds s', ax ρ s = some (ds, s') → ds.length = n) (hm : (m == ("_way" : Str)) = false ∧ (m == ("_row" : Str)) = false ∧ (m == ("_answer" : Str)) = false) :
    SndXE K W (tMethS C m (spR K (n + 1) f) (WE W) to tx) (dMethR C f dx ax) := fun c I H σ ρ s r s' e hh Q q => by
  obtain ⟨⟨x, s1⟩, h1, h⟩ := bind_some_of hh
  clear hh
  refine h0 _ _ _ _ _ _ _ _ e h1 _ fun v I1 H1 g1 w1 r1 => ?_
  cases r1 with
  | @dsk p C' dx vw vr va w r a hI rw rr ra =>
    dsimp only at h
    split at h
    · rename_i hC
      subst hC
      obtain ⟨⟨ds, s2⟩, h2, h⟩ := bind_some_of h
      obtain ⟨⟨r2, s3⟩, h3, h⟩ := map_some_of h
      refine ⟨p, dx, _, rfl, ins_at (K := K) g1.s2 hI, fs_none hm, ?_⟩
      refine hx _ _ _ _ _ _ _ _ (e.grow g1 w1) h2 _ fun vs I2 H2 g2 w2 rs => ?_
      have rd := (Rep.dsk hI rw rr ra : Rep K c I1 _ _).mono g2.s1
      have g12 := g1.tr w1 g2
      refine ⟨by rw [List.length_cons, rs.length.trans (hl _ _ _ _ h2)], c, I2, .dsk C' w r a :: ds, s2, r2, s3, .cons rd rs, g2.s2, w2, h3, ?_⟩
      cases r2 with
      | inr x =>
        cases h
        exact fun I' H' cls d g w r => q I' H' cls d (g12.tr w2 g) w r
      | inl p2 =>
        obtain ⟨d1, o⟩ := p2
        cases h
        exact res_end (d := d1) (o := o) (Q := Q) g12 w2 (fun v I' H' g w r => q v I' H' g w r)
    · cases h
  | _ => cases h
structure Mr (P : Program) (w : World) (K : PySem.W.Frag) (mg : Str → Option Value) (base : Heap) (k : Nat) (C : Addr) (x : Str) (n : Nat) (fn : Fnx) : Prop where
  cls : Cls K C
  h : ∃ (g : Addr) (fd : FuncData) (ps : List Str), ps.length = n ∧ Meth K C x g ∧ FnOk P w K mg base (L2N.CX P w) k g fd ps (spR ⟨K, P, w⟩ n fn) ∧ Binds K fd ps []
section
variable {X : Cx} {W : WX} {j k n : Nat} {C : Addr} {x : Str} {fn : Fnx} {o e : Expr} {es : List Expr} {to : TE} {tx : TA} {dx : Dn} {ax : Da} {pos apos : Pos} {pl : Sem Bool}
theorem exe_meth (F : Mr X.prog X.w X.K X.mg X.base k C x (n + 1) fn) (hr : Room j X.A) (hk : k ≤ j) (hx : ∀ σ, PassesAt (L2N.CX X.prog X.w) X σ (WE W σ)) (ho : EE X o to dx) (ha : EA X (e :: es) tx ax) (hl : ∀ ρ s ds s', ax ρ s = some (ds, s') → ds.length = n)
    (hm : (x == ("_way" : Str)) = false ∧ (x == ("_row" : Str)) = false ∧ (x == ("_answer" : Str)) = false := by decide)
    (hst : starEach (e :: es) X.env = (false, eval e X.env) :: starEach es X.env := by rfl) (hpl : (backTo pos (starEach es X.env)).any (fun z => z.1) = false := by rfl)
    (ht : eval (.Call (.Attribute o x apos) (e :: es) [] pos) X.env = (do
      let ov ← eval o X.env
      standAt apos.atName
      let (f, first) ← holding [ov] (getMethod ov x pl)
      callWith pos f first (backTo pos (starEach (e :: es) X.env)) (backToKw pos (keywordEach [] X.env))) := by rfl) :
    EXe X W (.Call (.Attribute o x apos) (e :: es) [] pos) (tMethS C x (spR X.kx (n + 1) fn) (WE W) to tx) (dMethR C fn dx ax) := by
  obtain ⟨g, fd, ps, hn, M, G, b⟩ := F.h
  exact ⟨pe_methS (pl := pl) ho.p F.cls M G (hr.mono hk) b hx ha.p hst hpl ht, sxe_meth (K := X.kx) ho.s ha.s hl hm⟩
theorem exe_meth0 (F : Mr X.prog X.w X.K X.mg X.base k C x 1 fn) (hr : Room j X.A) (hk : k ≤ j) (hx : ∀ σ, PassesAt (L2N.CX X.prog X.w) X σ (WE W σ)) (ho : EE X o to dx)
    (hm : (x == ("_way" : Str)) = false ∧ (x == ("_row" : Str)) = false ∧ (x == ("_answer" : Str)) = false := by decide)
    (ht : eval (.Call (.Attribute o x apos) [] [] pos) X.env = (do
      let ov ← eval o X.env
      standAt apos.atName
      let (f, first) ← holding [ov] (getMethod ov x pl)
      callWith pos f first (backTo pos (starEach [] X.env)) (backToKw pos (keywordEach [] X.env))) := by rfl) :
    EXe X W (.Call (.Attribute o x apos) [] [] pos) (tMethS C x (spR X.kx 1 fn) (WE W) to tNil) (dMethR C fn dx dNil) := by
  obtain ⟨g, fd, ps, hn, M, G, b⟩ := F.h
  exact ⟨pe_meth0S (pl := pl) ho.p F.cls M G (hr.mono hk) b hx ht, sxe_meth (K := X.kx) (n := 0) ho.s sn_nil len_nil hm⟩
end
theorem sn_methA {K : Kx} {C : Addr} {n : Nat} {m : Str} {f : Fnx} {to : TE} {tx : TA} {dx : Dn} {ax : Da} (h0 : SndE K to dx) (hx : SndA K tx ax) (hl : ∀ ρ s ds s', ax ρ s = some (ds, s') → ds.length = n) (hm : (m == ("_way" : Str)) = false ∧ (m == ("_row" : Str)) = false ∧ (m == ("_answer" : Str)) = false) :
    SndE K (tMeth C m (spR K (n + 1) f) [] E0 to tx) (dMethA C f dx ax) := fun c I H σ ρ s d s' e h Q q => by
  obtain ⟨⟨r, s1⟩, h1, h⟩ := bind_some_of h
  cases r with
  | inr x => cases h
  | inl d1 =>
    cases h
    have k := sxe_meth (W := fun _ _ _ _ => False) h0 hx hl hm c I H σ ρ s _ _ e h1 Q q
    have e0 : tMethS C m (spR K (n + 1) f) (WE fun _ _ _ _ => False) to tx = tMeth C m (spR K (n + 1) f) [] E0 to tx := by
      funext σ H Q
      unfold tMethS tMeth
      simp only [List.append_nil]
    rw [← e0]
    exact k
theorem ee_methA {X : Cx} {j k n : Nat} {C : Addr} {x : Str} {fn : Fnx} {o e : Expr} {es : List Expr} {to : TE} {tx : TA} {dx : Dn} {ax : Da} {pos apos : Pos} {pl : Sem Bool} (F : Mr X.prog X.w X.K X.mg X.base k C x (n + 1) fn) (hr : Room j X.A) (hk : k ≤ j) (ho : EE X o to dx) (ha : EA X (e :: es) tx ax) (hl : ∀ ρ s ds s', ax ρ s = some (ds, s') → ds.length = n)
    (hm : (x == ("_way" : Str)) = false ∧ (x == ("_row" : Str)) = false ∧ (x == ("_answer" : Str)) = false := by decide)
    (hst : starEach (e :: es) X.env = (false, eval e X.env) :: starEach es X.env := by rfl) (hpl : (backTo pos (starEach es X.env)).any (fun z => z.1) = false := by rfl)
    (ht : eval (.Call (.Attribute o x apos) (e :: es) [] pos) X.env = (do
      let ov ← eval o X.env
      standAt apos.atName
      let (f, first) ← holding [ov] (getMethod ov x pl)
      callWith pos f first (backTo pos (starEach (e :: es) X.env)) (backToKw pos (keywordEach [] X.env))) := by rfl) :
    EE X (.Call (.Attribute o x apos) (e :: es) [] pos) (tMeth C x (spR X.kx (n + 1) fn) [] E0 to tx) (dMethA C fn dx ax) := by
  obtain ⟨g, fd, ps, hn, M, G, b⟩ := F.h
  exact ⟨pe_meth (pl := pl) ho.p F.cls M G (hr.mono hk) b .nil passN0 ha.p hst hpl ht, sn_methA (K := X.kx) ho.s ha.s hl hm⟩
/-! an owned object is lent -/
def lend (i : Nat) (ρ : List Sl) : Option (List Sl) := match ρ[i]? with
  | some (.ow (.dsk C w r a)) => some (ρ.set i (.im (.dsk C w r a)))
  | _ => none
def dLend (i : Nat) (dn : Dn) : Dn := fun ρ s => (lend i ρ).bind fun ρ1 => (dn ρ1 s).bind fun p => if nod p.1 = true then some p else none
def dLendX (i : Nat) (dx : Dxe) : Dxe := fun ρ s => (lend i ρ).bind fun ρ1 => (dx ρ1 s).bind fun p => match p.1 with
  | .inl d => if nod d = true then some p else none
  | .inr x => if x.ix = none then some p else none
theorem lend_ec {K : Kx} {c : Option Addr} {I H : Hp} {σ : L2.St} {ρ ρ1 : List Sl} {s : Tau} {i : Nat} (e : Ec K c I H σ ρ s) (h : lend i ρ = some ρ1) :
    ∃ (p C dx : Addr) (fs : List (Str × V)), I p = none ∧ c ≠ some p ∧ Ec K c (upd I p (.ins C dx fs)) H σ ρ1 s := by
  unfold lend at h
  split at h
  · rename_i C w r a hi
    cases h
    obtain ⟨p, hp, o⟩ := e.ow hi
    cases o with
    | @dsk _ dx vw vr va _ _ _ h1 r1 r2 r3 h3 h4 =>
      have sI : Sb I (upd I p (.ins C dx [("_way", vw), ("_row", vr), ("_answer", va)])) := fun a u z => by rw [upd_ne (ne_of_none z h3)]; exact z
      refine ⟨p, C, dx, _, h3, h4, e.sub.updI h3 h1, e.w.more h4 h3, ?_, ?_⟩
      · have others : ∀ {σ' : L2.St} {ρ' : List Sl}, (∀ (j : Nat) (d : D), σ'[j]? = some (some (V.ref p)) → ρ'[j]? = some (.ow d) → False) → SlL K c I H σ' ρ' → SlL K c (upd I p (.ins C dx [("_way", vw), ("_row", vr), ("_answer", va)])) H σ' ρ' := fun {σ' ρ'} n sl => by
          induction sl with
          | nil => exact .nil
          | @cons v x σ2 ρ2 a r ih =>
            refine .cons ?_ (ih fun j d z1 z2 => n (j + 1) d (by simpa using z1) (by simpa using z2))
            cases a with
            | un => exact .un _
            | im a => exact .im (a.mono sI)
            | @ow p2 d2 o2 =>
              have np : p2 ≠ p := fun z => n 0 d2 (by rw [z]; rfl) rfl
              refine .ow ?_
              cases o2 with
              | lst h1 h2 h3 h4 => exact .lst h1 (h2.mono sI) (by rw [upd_ne np]; exact h3) h4
              | dS h1 h2 h3 h4 => exact .dS h1 (h2.mono sI) (by rw [upd_ne np]; exact h3) h4
              | dsk h1 r1 r2 r3 h3 h4 => exact .dsk h1 (r1.mono sI) (r2.mono sI) (r3.mono sI) (by rw [upd_ne np]; exact h3) h4
        have eq : σ.set i (some (V.ref p)) = σ := by
          apply List.ext_getElem?
          intro j
          by_cases z : i = j
          · subst z
            rw [List.getElem?_set]
            have hl := (List.getElem?_eq_some_iff.mp hp).1
            simp only [if_true, hl, hp]
          · rw [List.getElem?_set_ne z]
        have slot := SlL.set (v := some (V.ref p)) (x := .un) (.un _) i e.sl
        rw [eq] at slot
        have s2 := others (σ' := σ) (ρ' := ρ.set i .un) (fun j d' z1 z2 => by
          by_cases z : i = j
          · subst z
            rw [List.getElem?_set] at z2
            simp only [if_true] at z2
            split at z2 <;> cases z2
          · rw [List.getElem?_set_ne z] at z2
            exact e.uq i j p _ d' z hp z1 hi z2) slot
        have s3 := SlL.set (v := some (V.ref p)) (x := .im (.dsk C w r a)) (.im (.dsk upd_same (r1.mono sI) (r2.mono sI) (r3.mono sI))) i s2
        rw [eq, List.set_set] at s3
        exact s3
      · intro j k q d1 d2 hne h1' h2' h3' h4'
        have key : ∀ (j : Nat) (d : D), (ρ.set i (.im (.dsk C w r a)))[j]? = some (.ow d) → ρ[j]? = some (.ow d) := fun j d z => by
          by_cases y : i = j
          · subst y
            rw [List.getElem?_set] at z
            simp only [if_true] at z
            split at z <;> cases z
          · rw [List.getElem?_set_ne y] at z; exact z
        exact e.uq j k q d1 d2 hne h1' h2' (key _ _ h3') (key _ _ h4')
  · cases h
theorem sn_lend {K : Kx} {te : TE} {dn : Dn} (i : Nat) (h1 : SndE K te dn) : SndE K te (dLend i dn) := fun c I H σ ρ s d s' e h Q q => by
  obtain ⟨ρ1, hl, h⟩ := bind_some_of h
  obtain ⟨⟨x, s1⟩, h2, h⟩ := bind_some_of h
  dsimp only at h
  split at h
  · rename_i hn
    cases h
    obtain ⟨p, C, dx, fs, hI, hc, e1⟩ := lend_ec e hl
    refine h1 _ _ _ _ _ _ _ _ e1 h2 _ fun v I1 H1 g1 w1 r1 => ?_
    have hp := g1.s1 p _ upd_same
    exact q v (less I1 p) H1 (g1.thaw hI) (w1.less_ hp) (r1.less_ hp hn)
  · cases h
theorem sxe_lend {K : Kx} {W : WX} {te : TE} {dn : Dxe} (i : Nat) (h1 : SndXE K W te dn) : SndXE K W te (dLendX i dn) := fun c I H σ ρ s r s' e h Q q => by
  obtain ⟨ρ1, hl, h⟩ := bind_some_of h
  obtain ⟨⟨x, s1⟩, h2, h⟩ := bind_some_of h
  obtain ⟨p, C, dx, fs, hI, hc, e1⟩ := lend_ec e hl
  refine h1 _ _ _ _ _ _ _ _ e1 h2 _ ?_
  cases x with
  | inl d =>
    dsimp only at h
    split at h
    · rename_i hn
      cases h
      intro v I1 H1 g1 w1 r1
      have hp := g1.s1 p _ upd_same
      exact q v (less I1 p) H1 (g1.thaw hI) (w1.less_ hp) (r1.less_ hp hn)
    · cases h
  | inr x =>
    dsimp only at h
    split at h
    · rename_i hn
      cases h
      intro I1 H1 cls d g1 w1 r1
      have hp := g1.s1 p _ upd_same
      refine q (less I1 p) H1 cls d (g1.thaw hI) (w1.less_ hp) ⟨r1.1, ?_⟩
      rcases r1.2 with z | ⟨e0, _, _, z, _⟩
      · exact .inl z
      · rw [hn] at z; cases z
    · cases h
section
variable {X : Cx} {W : WX} {e : Expr} {te : TE}
theorem ee_lend {dn : Dn} (i : Nat) (h : EE X e te dn) : EE X e te (dLend i dn) := ⟨h.p, sn_lend i h.s⟩
theorem exe_lend {dx : Dxe} (i : Nat) (h : EXe X W e te dx) : EXe X W e te (dLendX i dx) := ⟨h.p, sxe_lend i h.s⟩
end
end Dl
end
section
set_option Elab.async false
set_option linter.all false
set_option maxRecDepth 100000
set_option maxHeartbeats 4000000
namespace Dl
open PySem PySem.Spec PyProof.Rows L2 StX RZ HotX
/-! a method that writes the desk -/
abbrev dskF (vw vr va : V) : List (Str × V) := [("_way", vw), ("_row", vr), ("_answer", va)]
/-- _lay(self, row) -/
def spLay (K : Kx) (C : Addr) (fl : D → D → D → Tau → Option (D × Tau)) : Sp := fun vs H Q _ => ∃ (p : Addr) (vr : V) (c : Option Addr) (I : Hp) (s : Tau) (w r a row ans : D) (s' : Tau), vs = [.ref p, vr] ∧ Rep K c I vr row ∧ nod row = true ∧ Sub I H ∧ DW K c s I H ∧ OwOk K c I H p (.dsk C w r a) ∧ nod w = true ∧ nod a = true ∧ fl w a row s = some (ans, s') ∧ nod ans = true ∧
  ∀ (y vw' : V) (I' H' : Hp) (dx : Addr), Gr c I H I' H' → DW K c s' I' H' → Rep K c I' vw' w → Rep K c I' vr row → Rep K c I' y ans → Q .non (upd H' p (.ins C dx (dskF vw' vr y)))
theorem put_row3 (vw x z vr : V) : putF "_row" vr (dskF vw x z) = dskF vw vr z := by rfl
theorem put_ans3 (vw x z y : V) : putF "_answer" y (dskF vw x z) = dskF vw x y := by rfl
theorem put_row1 (vw vr : V) : putF "_row" vr [(("_way" : Str), vw)] = [(("_way" : Str), vw), ("_row", vr)] := by rfl
theorem put_ans2 (vw vr y : V) : putF "_answer" y [(("_way" : Str), vw), ("_row", vr)] = dskF vw vr y := by rfl
theorem put_way (vw : V) : putF "_way" vw [] = [(("_way" : Str), vw)] := by rfl
theorem upd_upd {H : Hp} {p : Addr} {a b : HO} : upd (upd H p a) p b = upd H p b := by
  funext z
  by_cases h : z = p
  · subst h; rw [upd_same, upd_same]
  · rw [upd_ne h, upd_ne h, upd_ne h]
theorem upd_at {H : Hp} {p : Addr} {a : HO} (h : H p = some a) : upd H p a = H := by
  funext z
  by_cases e : z = p
  · subst e; rw [upd_same, h]
  · rw [upd_ne e]
/-- known for a while with other fields: it comes to the same -/
theorem Gr.mid {c : Option Addr} {I H I2 H2 : Hp} {p : Addr} {u m : HO} (hI : I p = none) (hc : c ≠ some p) (hH : H p = some u) (nu : NT u) (s : Sub I H) (g : Gr c (upd I p m) (upd H p m) I2 H2) (hm : ∃ C dx fs, m = .ins C dx fs) (nw : ∀ C dx fs, u = .ins C dx fs → True) : Gr c I H (Dl.less I2 p) (upd H2 p u) :=
  ⟨fun a o h => by
    have n : a ≠ p := ne_of_none h hI
    rw [less_ne n]
    exact g.s1 a o (by rw [upd_ne n]; exact h), by
    obtain ⟨C, dx, fs, rfl⟩ := hm
    exact (g.s2.less_ (g.s1 p _ upd_same)).updH less_same, fun a o n e => by
    by_cases z : a = p
    · subst z
      rw [hH] at e; cases e
      exact .inl upd_same
    · rw [upd_ne z]
      exact g.kp a o n (by rw [upd_ne z]; exact e), fun a h => by
    by_cases n : a = p
    · subst n; rw [less_same] at h; exact absurd rfl h
    · rw [less_ne n] at h
      rcases g.nw a h with z | z
      · rw [upd_ne n] at z; exact .inl z
      · rw [upd_ne n] at z; exact .inr z⟩
theorem DW.updP {K : Kx} {c : Option Addr} {s : Tau} {I H : Hp} {p : Addr} {o : HO} (w : DW K c s I H) (hc : c ≠ some p) : DW K c s I (upd H p o) := fun r hr => by
  obtain ⟨z1, sc, z2, z3⟩ := w r hr
  have n : r ≠ p := fun z => hc (by rw [hr, z])
  exact ⟨z1, sc, by rw [upd_ne n]; exact z2, z3⟩
theorem Sub.midI {I H : Hp} {p : Addr} {m : HO} (s : Sub I H) (hI : I p = none) : Sub (upd I p m) (upd H p m) := (s.updH hI).updI hI upd_same
section
variable {P : Program} {w : World} {K : PySem.W.Frag} {mg : Str → Option Value} {base : Heap} {x qual : Str} {params : Arguments} {body : List Stmt} {scope : Scope} {f C : Addr} {fd : FuncData} {CX : CXT}
/-- the two stores -/
theorem lay_core {te : TE} {D : Ends} {σ : L2.St} {H : Hp} {p dx : Addr} {vr : V} {old : List (Str × V)} (hc : Cls K C) (hn1 : NoAttr K C "_row") (hn2 : NoAttr K C "_answer") (h0 : σ[0]? = some (some (.ref p))) (h1 : σ[1]? = some (some vr)) (hH : H p = some (.ins C dx old)) (hl : old.length < 900) (hl2 : (putF "_row" vr old).length < 1000)
    (h : te σ (upd H p (.ins C dx (putF "_row" vr old))) fun y H2 => H2 p = some (.ins C dx (putF "_row" vr old)) ∧ D.nx σ (upd H2 p (.ins C dx (putF "_answer" y (putF "_row" vr old)))))
    (hmono : ∀ (σ : L2.St) (H : Hp) (Q Q' : VK), (∀ v H, Q v H → Q' v H) → te σ H Q → te σ H Q') :
    tSeq (sFld K (tVar 0) (tVar 1) "_row") (sFld K (tVar 0) te "_answer") D σ H := by
  refine ⟨vr, h1, .ref p, h0, p, C, dx, old, rfl, hH, hc, hn1, by omega, ?_⟩
  refine hmono _ _ _ _ (fun y H2 hq => ?_) h
  obtain ⟨q1, q2⟩ := hq
  exact ⟨.ref p, h0, p, C, dx, _, rfl, q1, hc, hn2, hl2, q2⟩
theorem lay_ok {k : Nat} {st1 st2 : Stmt} {fl : D → D → D → Tau → Option (D × Tau)} (F : FunD K x qual params body scope [] [] f fd) (S : FnScope ["self", "row"] ["self", "row"] scope) (hbody : body = [st1, st2]) (hc : Cls K C) (hn1 : NoAttr K C "_row") (hn2 : NoAttr K C "_answer")
    (hb : ∀ (cdv : Value) (A : Around) (outer : List PySem.Env) (s : Shared) (H : Hp) (E : XK), Room k (A.deeper (envOfC qual scope s.heap.objs.size f cdv)) →
      PS (cxOf CX P w K mg base ["self", "row"] qual scope f cdv A outer s H E) st1 (sFld K (tVar 0) (tVar 1) "_row") ∧ ∃ (te : TE) (da : Dn), PS (cxOf CX P w K mg base ["self", "row"] qual scope f cdv A outer s H E) st2 (sFld K (tVar 0) te "_answer") ∧ SndE ⟨K, P, w⟩ te da ∧ ∀ w0 a row s, da [.im (.dsk C w0 row a), .im row] s = fl w0 a row s) :
    FnOk P w K mg base CX (k + 1) f fd ["self", "row"] (spLay ⟨K, P, w⟩ C fl) := by
  subst hbody
  refine F.ok S (fun vs H Q E h => ?_) (fun cdv A outer s H vs Q E hr h => ?_)
  · obtain ⟨p, vr, _, _, _, _, _, _, _, _, _, rfl, _⟩ := h; rfl
  obtain ⟨p1, te, da, p2, sn, hda⟩ := hb cdv A outer s H E hr
  refine ⟨_, pss_cons p1 (pss_one p2), ?_⟩
  obtain ⟨p, vr, c, I, s0, w0, r, a, row, ans, s', rfl, rr, nr, sb, dw, ow, nw0, na, hf, nans, q⟩ := h
  cases ow with
  | @dsk _ dx vw vr0 va _ _ _ h1 r1 r2 r3 h3 h4 =>
    have hst : L2.start ["self", "row"] [V.ref p, vr] = [some (.ref p), some vr] := rfl
    rw [hst]
    have mid : HO := .ins C dx (dskF vw vr va)
    have sbm : Sub (upd I p (.ins C dx (dskF vw vr va))) (upd H p (.ins C dx (dskF vw vr va))) := sb.midI h3
    have sI : Sb I (upd I p (.ins C dx (dskF vw vr va))) := fun a u z => by rw [upd_ne (ne_of_none z h3)]; exact z
    have e0 : Ec ⟨K, P, w⟩ c (upd I p (.ins C dx (dskF vw vr va))) (upd H p (.ins C dx (dskF vw vr va))) [some (.ref p), some vr] [.im (.dsk C w0 row a), .im row] s0 :=
      ⟨sbm, (dw.more h4 h3).updP h4, .cons (.im (.dsk upd_same (r1.mono sI) (rr.mono sI) (r3.mono sI))) (.cons (.im (rr.mono sI)) .nil), fun i j q d e _ _ _ z3 _ => by
        match i, z3 with
        | 0, z3 => cases z3
        | 1, z3 => cases z3
        | i + 2, z3 => simp at z3⟩
    refine ⟨vr, rfl, .ref p, rfl, p, C, dx, dskF vw vr0 va, rfl, h1, hc, hn1, by show 3 < 1000; decide, ?_⟩
    rw [put_row3]
    refine sn _ _ _ _ _ _ _ _ e0 ((hda _ _ _ _).trans hf) _ fun y I2 H2 g w2 ry => ?_
    have hI2 : I2 p = some (.ins C dx (dskF vw vr va)) := g.s1 p _ upd_same
    refine ⟨.ref p, rfl, p, C, dx, _, rfl, ins_at (K := ⟨K, P, w⟩) g.s2 hI2, hc, hn2, by show 3 < 1000; decide, ?_⟩
    rw [put_ans3]
    have g2 : Gr c I H (Dl.less I2 p) (upd H2 p (.ins C dx (dskF vw vr0 va))) := g.mid h3 h4 h1 (fun ps z => by cases z) sb ⟨_, _, _, rfl⟩ (fun _ _ _ _ => trivial)
    have fin := q y vw (Dl.less I2 p) (upd H2 p (.ins C dx (dskF vw vr0 va))) dx g2 ((w2.less_ hI2).updP h4) ((r1.mono (sI.trans g.s1)).less_ hI2 nw0) ((rr.mono (sI.trans g.s1)).less_ hI2 nr) (ry.less_ hI2 nans)
    rw [upd_upd] at fin
    exact fin
end
end Dl
end
section
set_option Elab.async false
set_option linter.all false
set_option maxRecDepth 100000
set_option maxHeartbeats 4000000
namespace Dl
open PySem PySem.Spec PyProof.Rows L2 StX RZ HotX
theorem Gr.dead {c : Option Addr} {I H I2 H2 : Hp} {p : Addr} (hI : I p = none) (hH : H p ≠ none) (g : Gr c I H I2 H2) : I2 p = none := by
  cases q : I2 p with
  | none => rfl
  | some o =>
    rcases g.nw p (by rw [q]; simp) with z | z
    · exact absurd hI z
    · exact absurd z hH
theorem Gr.midU {c : Option Addr} {I H I2 H2 : Hp} {p : Addr} {u m : HO} (hI : I p = none) (hH : H p = some u) (g : Gr c I (upd H p m) I2 H2) : Gr c I H I2 (upd H2 p u) :=
  ⟨g.s1, g.s2.updH (g.dead hI (by rw [upd_same]; simp)), fun a o n e => by
    by_cases z : a = p
    · subst z
      rw [hH] at e; cases e
      exact .inl upd_same
    · rw [upd_ne z]
      exact g.kp a o n (by rw [upd_ne z]; exact e), fun a h => (g.nw a h).imp id fun z => by
      by_cases y : a = p
      · subst y; rw [upd_same] at z; cases z
      · rw [upd_ne y] at z; exact z⟩
theorem Gr.ins {c : Option Addr} {I H I2 H2 : Hp} {p C dx : Addr} {fs : List (Str × V)} (hc : c ≠ some p) (hH : H p = some (.ins C dx fs)) (g : Gr c I H I2 H2) : H2 p = some (.ins C dx fs) := g.kp.get hc hH (fun ps z => by cases z)
/-- _lay on an object that __init__ has begun -/
def spLay0 (K : Kx) (C : Addr) (f0 : D → Tau → Option (D × Tau)) : Sp := fun vs H Q _ => ∃ (p : Addr) (vr : V) (dx : Addr) (vw : V) (c : Option Addr) (I : Hp) (s : Tau) (w row ans : D) (s' : Tau), vs = [.ref p, vr] ∧ Rep K c I vr row ∧ nod row = true ∧ Sub I H ∧ DW K c s I H ∧ I p = none ∧ c ≠ some p ∧ H p = some (.ins C dx [(("_way" : Str), vw)]) ∧ Rep K c I vw w ∧ nod w = true ∧ f0 row s = some (ans, s') ∧ nod ans = true ∧
  ∀ (y vw' : V) (I' H' : Hp) (dx : Addr), Gr c I H I' H' → DW K c s' I' H' → Rep K c I' vw' w → Rep K c I' vr row → Rep K c I' y ans → Q .non (upd H' p (.ins C dx (dskF vw' vr y)))
/-- __init__(self, way) -/
def spInit (K : Kx) (C : Addr) (fi : D → Tau → Option ((D × D) × Tau)) : Sp := fun vs H Q _ => ∃ (p : Addr) (dx : Addr) (vw : V) (c : Option Addr) (I : Hp) (s : Tau) (w r a : D) (s' : Tau), vs = [.ref p, vw] ∧ Sub I H ∧ DW K c s I H ∧ I p = none ∧ c ≠ some p ∧ H p = some (.ins C dx []) ∧ Rep K c I vw w ∧ nod w = true ∧ fi w s = some ((r, a), s') ∧
  ∀ (vr va vw' : V) (I' H' : Hp) (dx : Addr), Gr c I H I' H' → DW K c s' I' H' → Rep K c I' vw' w → Rep K c I' vr r → Rep K c I' va a → Q .non (upd H' p (.ins C dx (dskF vw' vr va)))
section
variable {P : Program} {w : World} {K : PySem.W.Frag} {mg : Str → Option Value} {base : Heap} {x qual : Str} {params : Arguments} {body : List Stmt} {scope : Scope} {f C : Addr} {fd : FuncData} {CX : CXT}
theorem lay0_ok {k : Nat} {st1 st2 : Stmt} {f0 : D → Tau → Option (D × Tau)} (F : FunD K x qual params body scope [] [] f fd) (S : FnScope ["self", "row"] ["self", "row"] scope) (hbody : body = [st1, st2]) (hc : Cls K C) (hn1 : NoAttr K C "_row") (hn2 : NoAttr K C "_answer")
    (hb : ∀ (cdv : Value) (A : Around) (outer : List PySem.Env) (s : Shared) (H : Hp) (E : XK), Room k (A.deeper (envOfC qual scope s.heap.objs.size f cdv)) →
      PS (cxOf CX P w K mg base ["self", "row"] qual scope f cdv A outer s H E) st1 (sFld K (tVar 0) (tVar 1) "_row") ∧ ∃ (te : TE) (da : Dn), PS (cxOf CX P w K mg base ["self", "row"] qual scope f cdv A outer s H E) st2 (sFld K (tVar 0) te "_answer") ∧ SndE ⟨K, P, w⟩ te da ∧ ∀ (p : V) row s, da [.im (.fn p), .im row] s = f0 row s) :
    FnOk P w K mg base CX (k + 1) f fd ["self", "row"] (spLay0 ⟨K, P, w⟩ C f0) := by
  subst hbody
  refine F.ok S (fun vs H Q E h => ?_) (fun cdv A outer s H vs Q E hr h => ?_)
  · obtain ⟨p, vr, _, _, _, _, _, _, _, _, _, rfl, _⟩ := h; rfl
  obtain ⟨p1, te, da, p2, sn, hda⟩ := hb cdv A outer s H E hr
  refine ⟨_, pss_cons p1 (pss_one p2), ?_⟩
  obtain ⟨p, vr, dx, vw, c, I, s0, w0, row, ans, s', rfl, rr, nr, sb, dw, h3, h4, h1, r1, nw0, hf, nans, q⟩ := h
  have hst : L2.start ["self", "row"] [V.ref p, vr] = [some (.ref p), some vr] := rfl
  rw [hst]
  have sbm : Sub (upd I p (.ins C dx [(("_way" : Str), vw), ("_row", vr)])) (upd H p (.ins C dx [(("_way" : Str), vw), ("_row", vr)])) := sb.midI h3
  have sI : Sb I (upd I p (.ins C dx [(("_way" : Str), vw), ("_row", vr)])) := fun a u z => by rw [upd_ne (ne_of_none z h3)]; exact z
  have e0 : Ec ⟨K, P, w⟩ c (upd I p (.ins C dx [(("_way" : Str), vw), ("_row", vr)])) (upd H p (.ins C dx [(("_way" : Str), vw), ("_row", vr)])) [some (.ref p), some vr] [.im (.fn (.ref p)), .im row] s0 :=
    ⟨sbm, (dw.more h4 h3).updP h4, .cons (.im (.fn _)) (.cons (.im (rr.mono sI)) .nil), fun i j q d e _ _ _ z3 _ => by
      match i, z3 with
      | 0, z3 => cases z3
      | 1, z3 => cases z3
      | i + 2, z3 => simp at z3⟩
  refine ⟨vr, rfl, .ref p, rfl, p, C, dx, [(("_way" : Str), vw)], rfl, h1, hc, hn1, by show 1 < 1000; decide, ?_⟩
  rw [put_row1]
  refine sn _ _ _ _ _ _ _ _ e0 ((hda _ _ _).trans hf) _ fun y I2 H2 g w2 ry => ?_
  have hI2 : I2 p = some (.ins C dx [(("_way" : Str), vw), ("_row", vr)]) := g.s1 p _ upd_same
  refine ⟨.ref p, rfl, p, C, dx, _, rfl, ins_at (K := ⟨K, P, w⟩) g.s2 hI2, hc, hn2, by show 2 < 1000; decide, ?_⟩
  rw [put_ans2]
  have g2 : Gr c I H (Dl.less I2 p) (upd H2 p (.ins C dx [(("_way" : Str), vw)])) := g.mid h3 h4 h1 (fun ps z => by cases z) sb ⟨_, _, _, rfl⟩ (fun _ _ _ _ => trivial)
  have fin := q y vw (Dl.less I2 p) (upd H2 p (.ins C dx [(("_way" : Str), vw)])) dx g2 ((w2.less_ hI2).updP h4) ((r1.mono (sI.trans g.s1)).less_ hI2 nw0) ((rr.mono (sI.trans g.s1)).less_ hI2 nr) (ry.less_ hI2 nans)
  rw [upd_upd] at fin
  exact fin
theorem init_ok {k : Nat} {st1 st2 st3 : Stmt} {fi : D → Tau → Option ((D × D) × Tau)} {f0 : D → Tau → Option (D × Tau)} (F : FunD K x qual params body scope [] [] f fd) (S : FnScope ["self", "way"] ["self", "way"] scope) (hbody : body = [st1, st2, st3]) (hc : Cls K C) (hn1 : NoAttr K C "_way")
    (hb : ∀ (cdv : Value) (A : Around) (outer : List PySem.Env) (s : Shared) (H : Hp) (E : XK), Room k (A.deeper (envOfC qual scope s.heap.objs.size f cdv)) →
      ∃ (te : TE) (da : Dn) (tx : TA) (ax : Da), PS (cxOf CX P w K mg base ["self", "way"] qual scope f cdv A outer s H E) st1 (tDrop te) ∧ SndE ⟨K, P, w⟩ te da ∧ PS (cxOf CX P w K mg base ["self", "way"] qual scope f cdv A outer s H E) st2 (sFld K (tVar 0) (tVar 1) "_way") ∧
      PS (cxOf CX P w K mg base ["self", "way"] qual scope f cdv A outer s H E) st3 (tDrop (tMeth C "_lay" (spLay0 ⟨K, P, w⟩ C f0) [] E0 (tVar 0) tx)) ∧ SndA ⟨K, P, w⟩ tx ax ∧
      ∀ (p : V) w0 s r a s', fi w0 s = some ((r, a), s') → ∃ d s1 s2, da [.im (.fn p), .im w0] s = some (d, s1) ∧ ax [.im (.fn p), .im w0] s1 = some ([r], s2) ∧ nod r = true ∧ f0 r s2 = some (a, s') ∧ nod a = true) :
    FnOk P w K mg base CX (k + 1) f fd ["self", "way"] (spInit ⟨K, P, w⟩ C fi) := by
  subst hbody
  refine F.ok S (fun vs H Q E h => ?_) (fun cdv A outer s H vs Q E hr h => ?_)
  · obtain ⟨p, _, _, _, _, _, _, _, _, _, rfl, _⟩ := h; rfl
  obtain ⟨te, da, tx, ax, p1, sn, p2, p3, sx, hda⟩ := hb cdv A outer s H E hr
  refine ⟨_, pss_cons p1 (pss_cons p2 (pss_one p3)), ?_⟩
  obtain ⟨p, dx, vw, c, I, s0, w0, r, a, s', rfl, sb, dw, h3, h4, h1, r1, nw0, hf, q⟩ := h
  obtain ⟨d1, s1, s2, e1, e2, nr, e3, na⟩ := hda (.ref p) _ _ _ _ _ hf
  have hst : L2.start ["self", "way"] [V.ref p, vw] = [some (.ref p), some vw] := rfl
  rw [hst]
  have uq : ∀ ρ0 : List Sl, ρ0 = [.im (.fn (.ref p)), .im w0] → Uq [some (.ref p), some vw] ρ0 := fun ρ0 hρ i j q d e _ _ _ z3 _ => by
    subst hρ
    match i, z3 with
    | 0, z3 => cases z3
    | 1, z3 => cases z3
    | i + 2, z3 => simp at z3
  have e0 : Ec ⟨K, P, w⟩ c I H [some (.ref p), some vw] [.im (.fn (.ref p)), .im w0] s0 := ⟨sb, dw, .cons (.im (.fn _)) (.cons (.im r1) .nil), uq _ rfl⟩
  refine sn _ _ _ _ _ _ _ _ e0 e1 _ fun v1 I1 H1 g1 w1 _ => ?_
  have hI1 : I1 p = none := g1.dead h3 (by rw [h1]; simp)
  have hH1 : H1 p = some (.ins C dx []) := g1.ins h4 h1
  refine ⟨vw, rfl, .ref p, rfl, p, C, dx, [], rfl, hH1, hc, hn1, by show 0 < 1000; decide, ?_⟩
  rw [put_way]
  have e0' : Ec ⟨K, P, w⟩ c I1 (upd H1 p (.ins C dx [(("_way" : Str), vw)])) [some (.ref p), some vw] [.im (.fn (.ref p)), .im w0] s1 := ⟨g1.s2.updH hI1, w1.updP h4, .cons (.im (.fn _)) (.cons (.im (r1.mono g1.s1)) .nil), uq _ rfl⟩
  refine ⟨.ref p, rfl, p, dx, _, rfl, upd_same, by rfl, ?_⟩
  refine sx _ _ _ _ _ _ _ _ e0' e2 _ fun vs I3 H3 g3 w3 rs => ?_
  have hI3 : I3 p = none := g3.dead hI1 (by rw [upd_same]; simp)
  have hH3 := g3.ins h4 upd_same
  rw [List.append_nil]
  cases rs with
  | @cons vr _ _ _ rr rs =>
    cases rs
    refine ⟨p, vr, dx, vw, c, I3, s2, w0, r, a, s', rfl, rr, nr, g3.s2, w3, hI3, h4, hH3, r1.mono (g1.s1.trans g3.s1), nw0, e3, na, fun y vw' I' H' dx' g w' rw' rr' ry => ?_⟩
    have ga : Gr c I1 (upd H1 p (.ins C dx [(("_way" : Str), vw)])) I' H' := g3.tr w3 g
    have gb : Gr c I1 H1 I' (upd H' p (.ins C dx [])) := ga.midU hI1 hH1
    have fin := q vr y vw' I' (upd H' p (.ins C dx [])) dx' (g1.tr w1 gb) (w'.updP h4) rw' rr' ry
    rw [upd_upd] at fin
    exact fin
end
/-! Desk(way), new and owned -/
def dMk (C : Addr) (fi : D → Tau → Option ((D × D) × Tau)) (da : Dn) : Dn := fun ρ s => (da ρ s).bind fun p => if nod p.1 = true then (fi p.1 p.2).map fun r => (.dsk C p.1 r.1.1 r.1.2, r.2) else none
theorem sf_desk {K : Kx} {C : Addr} {fi : D → Tau → Option ((D × D) × Tau)} {te : TE} {da : Dn} (h0 : SndE K te da) : SndF K (tMake C (spInit K C fi) [] E0 (tCons te tNil)) (dMk C fi da) := fun c I H σ ρ s d s' e h Q q => by
  obtain ⟨⟨x, s1⟩, h1, h⟩ := bind_some_of h
  dsimp only at h
  split at h
  · rename_i hn
    obtain ⟨⟨⟨r, a⟩, s2⟩, h2, h⟩ := map_some_of h
    cases h
    refine h0 _ _ _ _ _ _ _ _ e h1 _ fun v I1 H1 g1 w1 r1 => ?_
    intro p dx np nd hne
    have keep : ∀ a o, H1 a = some o → upd (upd H1 dx (.own p)) p (.ins C dx []) a = some o := fun a o z => by rw [upd_ne (ne_of_none z np), upd_ne (ne_of_none z nd)]; exact z
    have hI : I1 p = none := g1.s2.free np
    have hc : c ≠ some p := w1.ne np
    refine ⟨p, dx, v, c, I1, s1, x, r, a, s2, rfl, (g1.s2.updH (g1.s2.free nd)).updH hI, fun rr hr => ?_, hI, hc, upd_same, r1, hn, h2, fun vr va vw' I' H' dx' g w' rw' rr' ra' => ?_⟩
    · obtain ⟨z1, sc, z2, z3⟩ := w1 rr hr
      exact ⟨z1, sc, keep _ _ z2, z3⟩
    · have hI' : I' p = none := g.dead hI (by rw [upd_same]; simp)
      have ga : Gr c I1 H1 I' H' := g.less keep
      have gb : Gr c I1 H1 I' (upd H' p (.ins C dx' (dskF vw' vr va))) := ⟨ga.s1, ga.s2.updH hI', ga.kp.updH np, ga.nw⟩
      exact ⟨rfl, q p I' _ (g1.tr w1 gb) (w'.updP hc) (.dsk upd_same rw' rr' ra' hI' hc) (by
        cases z : H p with
        | none => rfl
        | some o =>
          rcases g1.kp p o hc z with y | ⟨_, _, y⟩
          · rw [np] at y; cases y
          · rw [np] at y; cases y)⟩
  · cases h
structure Kd (CX : CXT) (P : Program) (w : World) (K : PySem.W.Frag) (mg : Str → Option Value) (base : Heap) (k : Nat) (x : Str) (fi : D → Tau → Option ((D × D) × Tau)) : Prop where
  h : ∃ (f : Addr) (fd : FuncData) (ps : List Str), ps.length = 2 ∧ Mk K (He.ga K x) f ∧ FnOk P w K mg base CX k f fd ps (spInit ⟨K, P, w⟩ (He.ga K x) fi) ∧ mg x = some (.ref (He.ga K x)) ∧ Binds K fd ps []
theorem ef_desk {X : Cx} {CX : CXT} {j k : Nat} {x : Str} {p pos : Pos} {fi : D → Tau → Option ((D × D) × Tau)} {e : Expr} {te : TE} {da : Dn} (F : Kd CX X.prog X.w X.K X.mg X.base k x fi) (hr : Room j X.A) (hk : k + 1 ≤ j) (hx : Passes CX X E0) (hg : Gl X x) (ha : EE X e te da)
    (hdb : (x == ("__debug__" : Str)) = false := by decide) (he : starEach [e] X.env = (false, eval e X.env) :: starEach [] X.env := by rfl) (hpl : (backTo pos (starEach [] X.env)).any (fun z => z.1) = false := by rfl) :
    EF X (.Call (.Name x p) [e] [] pos) (tMake (He.ga X.K x) (spInit X.kx (He.ga X.K x) fi) [] E0 (tCons te tNil)) (dMk (He.ga X.K x) fi da) := by
  obtain ⟨f, fd, ps, hn, M, G, gm, b⟩ := F.h
  exact ⟨pe_make M G (hr.mono hk) hg gm b .nil hx (pa_cons ha.p pa_nil he) hdb he hpl, sf_desk (K := X.kx) ha.s⟩
end Dl
end
section
set_option Elab.async false
set_option linter.all false
set_option maxRecDepth 100000
set_option maxHeartbeats 4000000
namespace Dl
open PySem PySem.Spec PyProof.Rows L2 StX RZ HotX
/-! methods whose last deed is self._lay(..) -/
def spM (K : Kx) (C : Addr) (n : Nat) (f : List D → Tau → Option ((D × D × D) × Tau)) : Sp := fun vs H Q _ => vs.length = n ∧ ∃ (p : Addr) (us : List V) (c : Option Addr) (I : Hp) (ds : List D) (s : Tau) (w r a : D) (z : D × D × D) (s' : Tau), vs = .ref p :: us ∧ RepL K c I us ds ∧ Sub I H ∧ DW K c s I H ∧ OwOk K c I H p (.dsk C w r a) ∧ f (.dsk C w r a :: ds) s = some (z, s') ∧
  ∀ (I' H' : Hp) (dx : Addr) (vw vr va : V), Gr c I H I' H' → DW K c s' I' H' → Rep K c I' vw z.1 → Rep K c I' vr z.2.1 → Rep K c I' va z.2.2 → Q .non (upd H' p (.ins C dx (dskF vw vr va)))
abbrev DMs := List Sl → Tau → Option ((D × D × D) × Tau)
def SndWr (K : Kx) (C : Addr) (t : TS) (dm : DMs) : Prop := ∀ (c : Option Addr) (I0 H0 I H : Hp) (σ : L2.St) (ρ : List Sl) (s : Tau) (z : D × D × D) (s' : Tau) (p dx : Addr) (vw vr va : V), EnvS K c (upd I0 p (.ins C dx (dskF vw vr va))) H0 I H σ ρ s → I0 p = none → c ≠ some p → σ[0]? = some (some (.ref p)) → dm ρ s = some (z, s') →
  ∀ (D : Ends) (R : Hp → Prop), (∀ H', R H' → (∀ σ', D.nx σ' H') ∧ D.rt .non H') → (∀ (I' H' : Hp) (dx : Addr) (vw vr va : V), Gr c I0 H0 I' H' → DW K c s' I' H' → Rep K c I' vw z.1 → Rep K c I' vr z.2.1 → Rep K c I' va z.2.2 → R (upd H' p (.ins C dx (dskF vw vr va)))) → t D σ H
abbrev Dpre := List Sl → Tau → Option (List Sl × Tau)
def SndPre (K : Kx) (t : TS) (a : Dpre) : Prop := ∀ (c : Option Addr) (I0 H0 I H : Hp) (σ : L2.St) (ρ : List Sl) (s : Tau) (ρ' : List Sl) (s' : Tau), EnvS K c I0 H0 I H σ ρ s → a ρ s = some (ρ', s') → ∀ D : Ends, (∀ σ' I' H', EnvS K c I0 H0 I' H' σ' ρ' s' → σ'[0]? = σ[0]? → D.nx σ' H') → t D σ H
def dpDrop (da : Dn) : Dpre := fun ρ s => (da ρ s).map fun p => (ρ, p.2)
def dpSet (i : Nat) (da : Dn) : Dpre := fun ρ s => (da ρ s).map fun p => (ρ.set i (.im p.1), p.2)
def dpIf (bt : Dt) : Dpre := fun ρ s => (bt ρ s).bind fun p => if p.1 = true then none else some (ρ, p.2)
def dmCons (a : Dpre) (b : DMs) : DMs := fun ρ s => (a ρ s).bind fun p => b p.1 p.2
def dmLay (C : Addr) (fl : D → D → D → Tau → Option (D × Tau)) (ax : Da) : DMs := fun ρ s => match (ρ[0]? : Option Sl) with
  | some (.im (.dsk C' w r a)) => if C' = C ∧ nod w = true ∧ nod r = true ∧ nod a = true then (ax ρ s).bind fun p => match p.1 with
    | [row] => if nod row = true then (fl w a row p.2).bind fun q => if nod q.1 = true then some ((w, row, q.1), q.2) else none else none
    | _ => none
    else none
  | _ => none
section
variable {K : Kx} {C : Addr} {te : TE} {da : Dn} {tt : TT} {bt : Dt} {t u : TS} {a : Dpre} {b : DMs} {tx : TA} {ax : Da}
theorem sp_drop (h : SndE K te da) : SndPre K (tDrop te) (dpDrop da) := fun c I0 H0 I H σ ρ s ρ' s' e h1 D q => by
  obtain ⟨⟨x, s1⟩, ha, h1⟩ := map_some_of h1
  cases h1
  exact h _ _ _ _ _ _ _ _ e.env ha _ fun v I1 H1 g1 w1 r1 => q σ I1 H1 (e.grow g1 w1) rfl
theorem sp_set {i : Nat} (hi : i ≠ 0) (h : SndE K te da) : SndPre K (tAsg te (gName i)) (dpSet i da) := fun c I0 H0 I H σ ρ s ρ' s' e h1 D q => by
  obtain ⟨⟨x, s1⟩, ha, h1⟩ := map_some_of h1
  cases h1
  exact h _ _ _ _ _ _ _ _ e.env ha _ fun v I1 H1 g1 w1 r1 => q _ I1 H1 ((e.grow g1 w1).setI r1 i) (List.getElem?_set_ne hi)
theorem sp_if (h : SndT K tt bt) : SndPre K (tIfS tt u tNext) (dpIf bt) := fun c I0 H0 I H σ ρ s ρ' s' e h1 D q => by
  obtain ⟨⟨x, s1⟩, ha, h1⟩ := bind_some_of h1
  cases x with
  | true => cases h1
  | false =>
    cases h1
    exact h _ _ _ _ _ _ _ _ e.env ha _ fun I1 H1 g1 w1 => q σ I1 H1 (e.grow g1 w1) rfl
theorem sm_cons (h1 : SndPre K t a) (h2 : SndWr K C u b) : SndWr K C (tSeq t u) (dmCons a b) := fun c I0 H0 I H σ ρ s z s' p dx vw vr va e hI hc h0 h D R hD q => by
  obtain ⟨⟨ρ1, s1⟩, ha, h⟩ := bind_some_of h
  exact h1 _ _ _ _ _ _ _ _ _ _ e ha _ fun σ' I' H' e' hs => h2 _ _ _ _ _ _ _ _ _ _ _ _ _ _ _ e' hI hc (hs.trans h0) h D R hD q
theorem sm_lay {fl : D → D → D → Tau → Option (D × Tau)} (hx : SndA K tx ax) (hu : ∀ (D : Ends) σ H, (∀ σ', D.nx σ' H) → D.rt .non H → u D σ H) : SndWr K C (tSeq (tDrop (tMeth C "_lay" (spLay K C fl) [] E0 (tVar 0) tx)) u) (dmLay C fl ax) := fun c I0 H0 I H σ ρ s z s' p dx vw vr va e h3 h4 h0 h D R hD q => by
  unfold dmLay at h
  split at h
  · rename_i C' w r a hρ
    split at h
    · rename_i hn
      obtain ⟨rfl, nw, nr, na⟩ := hn
      obtain ⟨⟨xs, s1⟩, h1, h⟩ := bind_some_of h
      dsimp only at h
      split at h
      · rename_i row
        split at h
        · rename_i nrow
          obtain ⟨⟨ans, s2⟩, h2, h⟩ := bind_some_of h
          dsimp only at h
          split at h
          · rename_i nans
            cases h
            obtain ⟨v, hv, rv⟩ := e.env.imm hρ
            rw [h0] at hv
            cases hv
            have hIp : I p = some (.ins C' dx (dskF vw vr va)) := e.s0 p _ upd_same
            cases rv with
            | @dsk _ _ dx2 vw2 vr2 va2 _ _ _ hI rw_ rr_ ra_ =>
              rw [hIp] at hI
              cases hI
              refine ⟨.ref p, h0, p, dx, _, rfl, ins_at (K := K) e.env.sub hIp, by rfl, ?_⟩
              refine hx _ _ _ _ _ _ _ _ e.env h1 _ fun vs I3 H3 g3 w3 rs => ?_
              rw [List.append_nil]
              cases rs with
              | @cons vrow _ _ _ rrow rs =>
                cases rs
                have hI3 := g3.s1 p _ hIp
                have g0 : Gr c I0 H0 (Dl.less I3 p) H3 := (e.gr.tr e.env.w g3).thaw h3
                have w4 := w3.less_ hI3
                refine ⟨p, vrow, c, Dl.less I3 p, s1, w, r, a, row, ans, s', rfl, rrow.less_ hI3 nrow, nrow, g3.s2.less_ hI3, w4, .dsk (ins_at (K := K) g3.s2 hI3) ((rw_.mono g3.s1).less_ hI3 nw) ((rr_.mono g3.s1).less_ hI3 nr) ((ra_.mono g3.s1).less_ hI3 na) less_same h4, nw, na, h2, nans, fun y vw' I' H' dx' g w' rw' rr' ry => ?_⟩
                have k := hD _ (q I' H' dx' vw' vrow y (g0.tr w4 g) w' rw' rr' ry)
                exact hu _ _ _ k.1 k.2
          · cases h
        · cases h
      · cases h
    · cases h
  · cases h
end
structure EMs (X : Cx) (C : Addr) (st : List Stmt) (t : TS) (dm : DMs) : Prop where
  p : PSs X st t
  s : SndWr X.kx C t dm
structure EP1 (X : Cx) (st : Stmt) (t : TS) (a : Dpre) : Prop where
  p : PS X st t
  s : SndPre X.kx t a
section
variable {X : Cx} {C : Addr} {st : Stmt} {sts : List Stmt} {t u : TS} {a : Dpre} {b : DMs} {e : Expr} {te : TE} {da : Dn} {pos : Pos}
theorem em_cons (h1 : EP1 X st t a) (h2 : EMs X C sts u b) : EMs X C (st :: sts) (tSeq t u) (dmCons a b) := ⟨pss_cons h1.p h2.p, sm_cons h1.s h2.s⟩
theorem ep_drop (h : EE X e te da) (hs : swapsWith e none pos.line X.env = pure false := by rfl) : EP1 X (.Expr e pos) (tDrop te) (dpDrop da) := ⟨ps_expr h.p hs, sp_drop h.s⟩
theorem ep_set {i : Nat} {x : Str} {px : Pos} (hi0 : i ≠ 0) (hN : X.N.Nodup) (hi : X.N[i]? = some x) (hx : Loc X.env.scope x) (h : EE X e te da) (hf : X.fn x = true ∨ X.env.scope.names.lookup x = some .local := by first | exact .inl rfl | exact .inr rfl | assumption)
    (hs : swapsWith e (some (.Name x px)) pos.line X.env = pure false := by rfl) : EP1 X (.Assign [.Name x px] e pos) (tAsg te (gName i)) (dpSet i da) := ⟨ps_set hN hi hx h.p hs hf, sp_set hi0 h.s⟩
theorem ep_if {cnd : Expr} {tt : TT} {bt : Dt} {body : List Stmt} (h : ET X cnd tt bt) (hb : PSs X body u) : EP1 X (.If cnd body [] pos) (tIfS tt u tNext) (dpIf bt) := ⟨ps_if h.p hb pss_nil, sp_if h.s⟩
end
section
variable {X : Cx} {j k : Nat} {C : Addr} {fl : D → D → D → Tau → Option (D × Tau)} {n : Str} {e : Expr} {tx : TA} {ax : Da} {p1 p2 p3 p4 : Pos} {pl : Sem Bool}
/-- self._lay(e) -/
theorem em_lay (F : Md X.prog X.w X.K X.mg X.base k C "_lay" 2 (fun K => spLay K C fl)) (hr : Room j X.A) (hk : k ≤ j) (hv : PE X (.Name n p1) (tVar 0)) (ha : EA X [e] tx ax)
    (hst : starEach [e] X.env = (false, eval e X.env) :: starEach [] X.env := by rfl) (hpl : (backTo p3 (starEach [] X.env)).any (fun z => z.1) = false := by rfl) (hs : swapsWith (.Call (.Attribute (.Name n p1) "_lay" p2) [e] [] p3) none p4.line X.env = pure false := by rfl)
    (ht : eval (.Call (.Attribute (.Name n p1) "_lay" p2) [e] [] p3) X.env = (do
      let ov ← eval (.Name n p1) X.env
      standAt p2.atName
      let (f, first) ← holding [ov] (getMethod ov "_lay" pl)
      callWith p3 f first (backTo p3 (starEach [e] X.env)) (backToKw p3 (keywordEach [] X.env))) := by rfl) :
    EMs X C [.Expr (.Call (.Attribute (.Name n p1) "_lay" p2) [e] [] p3) p4] (tSeq (tDrop (tMeth C "_lay" (spLay X.kx C fl) [] E0 (tVar 0) tx)) tNext) (dmLay C fl ax) := by
  obtain ⟨g, fd, ps, hn, M, G, b⟩ := F.h
  exact ⟨pss_cons (ps_expr (pe_meth (pl := pl) hv F.cls M G (hr.mono hk) b .nil pass0 ha.p hst hpl ht) hs) pss_nil, sm_lay (K := X.kx) ha.s fun D σ H h _ => h σ⟩
theorem em_layR {jj : Nat} {p5 p6 : Pos} (F : Md X.prog X.w X.K X.mg X.base k C "_lay" 2 (fun K => spLay K C fl)) (hr : Room j X.A) (hk : k ≤ j) (hv : PE X (.Name n p1) (tVar 0)) (ha : EA X [e] tx ax)
    (hst : starEach [e] X.env = (false, eval e X.env) :: starEach [] X.env := by rfl) (hpl : (backTo p3 (starEach [] X.env)).any (fun z => z.1) = false := by rfl) (hs : swapsWith (.Call (.Attribute (.Name n p1) "_lay" p2) [e] [] p3) none p4.line X.env = pure false := by rfl)
    (ht : eval (.Call (.Attribute (.Name n p1) "_lay" p2) [e] [] p3) X.env = (do
      let ov ← eval (.Name n p1) X.env
      standAt p2.atName
      let (f, first) ← holding [ov] (getMethod ov "_lay" pl)
      callWith p3 f first (backTo p3 (starEach [e] X.env)) (backToKw p3 (keywordEach [] X.env))) := by rfl) :
    EMs X C [.Expr (.Call (.Attribute (.Name n p1) "_lay" p2) [e] [] p3) p4, .Return (some (.Constant .none jj p5)) p6] (tSeq (tDrop (tMeth C "_lay" (spLay X.kx C fl) [] E0 (tVar 0) tx)) (tSeq (tRet (tC .non)) tNext)) (dmLay C fl ax) := by
  obtain ⟨g, fd, ps, hn, M, G, b⟩ := F.h
  exact ⟨pss_cons (ps_expr (pe_meth (pl := pl) hv F.cls M G (hr.mono hk) b .nil pass0 ha.p hst hpl ht) hs) (pss_cons (ps_ret pe_non) pss_nil), sm_lay (K := X.kx) ha.s fun D σ H _ h => h⟩
end
section
variable {P : Program} {w : World} {K : PySem.W.Frag} {mg : Str → Option Value} {base : Heap} {x qual : Str} {params : Arguments} {body : List Stmt} {scope : Scope} {f C : Addr} {fd : FuncData} {CX : CXT}
theorem fnM_ok {N ps : List Str} {k : Nat} {dm : DMs} (F : FunD K x qual params body scope [] [] f fd) (S : FnScope N ps scope)
    (hb : ∀ (cdv : Value) (A : Around) (outer : List PySem.Env) (s : Shared) (H : Hp) (E : XK), Room k (A.deeper (envOfC qual scope s.heap.objs.size f cdv)) → ∃ t, EMs (cxOf CX P w K mg base N qual scope f cdv A outer s H E) C body t dm) :
    FnOk P w K mg base CX (k + 1) f fd ps (spM ⟨K, P, w⟩ C ps.length fun ds s => dm (ds.map Sl.im ++ List.replicate (N.length - ds.length) .un) s) := by
  refine F.ok S (fun vs H Q E h => h.1) (fun cdv A outer s H vs Q E hr h => ?_)
  obtain ⟨t, ht⟩ := hb cdv A outer s H E hr
  refine ⟨t, ht.p, ?_⟩
  obtain ⟨hn, p, us, c, I, ds, s0, w0, r, a, z, s', rfl, ru, sb, dw, ow, hf, q⟩ := h
  cases ow with
  | @dsk _ dx vw vr va _ _ _ h1 r1 r2 r3 h3 h4 =>
    have sI : Sb I (upd I p (.ins C dx (dskF vw vr va))) := fun a u z => by rw [upd_ne (ne_of_none z h3)]; exact z
    have rl : RepL ⟨K, P, w⟩ c (upd I p (.ins C dx (dskF vw vr va))) (.ref p :: us) (.dsk C w0 r a :: ds) := .cons (.dsk upd_same (r1.mono sI) (r2.mono sI) (r3.mono sI)) (ru.mono sI)
    have w1 := dw.more (o := .ins C dx (dskF vw vr va)) h4 h3
    have e0 : EnvS ⟨K, P, w⟩ c (upd I p (.ins C dx (dskF vw vr va))) H (upd I p (.ins C dx (dskF vw vr va))) H (L2.start N (.ref p :: us)) ((D.dsk C w0 r a :: ds).map Sl.im ++ List.replicate (N.length - (D.dsk C w0 r a :: ds).length) .un) s0 := by
      have sl : SlL ⟨K, P, w⟩ c (upd I p (.ins C dx (dskF vw vr va))) H (L2.start N (.ref p :: us)) ((D.dsk C w0 r a :: ds).map Sl.im ++ List.replicate (N.length - (D.dsk C w0 r a :: ds).length) .un) := by
        unfold L2.start
        rw [rl.length]
        exact slL_start _ rl
      exact ⟨⟨sb.updI h3 h1, w1, sl, fun i j p d e _ _ _ h3 _ => (start_im h3).elim⟩, .refl _, .refl _ _, fun a z => .inl z, fun i p d _ h => (start_im h).elim, fun r hr z => by
        obtain ⟨_, sc, z2, _⟩ := w1 r hr
        rw [z] at z2; cases z2⟩
    exact ht.s _ _ _ _ _ _ _ _ _ _ _ _ _ _ _ e0 h3 h4 (by unfold L2.start; rfl) hf _ (fun H' => Q .non H') (fun H' h => ⟨fun _ => h, h⟩) q
end
/-! the law writes its desk -/
def dMut0 (i : Nat) (C : Addr) (f : List D → Tau → Option ((D × D × D) × Tau)) : Ds := fun ρ s => match ρ[i]? with
  | some (.ow (.dsk C' w r a)) => if C' = C then (f [.dsk C' w r a] s).map fun z => (.nx (ρ.set i (.ow (.dsk C z.1.1 z.1.2.1 z.1.2.2))), z.2) else none
  | _ => none
def dMut1 (i : Nat) (C : Addr) (f : List D → Tau → Option ((D × D × D) × Tau)) (ax : Da) : Ds := fun ρ s => match ρ[i]? with
  | some (.ow (.dsk C' w r a)) => if C' = C then (ax ρ s).bind fun p => (f (.dsk C' w r a :: p.1) p.2).map fun z => (.nx (ρ.set i (.ow (.dsk C z.1.1 z.1.2.1 z.1.2.2))), z.2) else none
  | _ => none
section
variable {K : Kx} {C : Addr} {tx : TA} {ax : Da} {u : TS} {m : Str} {f : List D → Tau → Option ((D × D × D) × Tau)}
theorem mut_step {c : Option Addr} {I0 H0 I H : Hp} {σ : L2.St} {ρ : List Sl} {s : Tau} {i : Nat} {p : Addr} {d : D} (e : EnvS K c I0 H0 I H σ ρ s) (hp : σ[i]? = some (some (V.ref p))) (hs : ρ[i]? = some (.ow d)) {I' H' : Hp} {dx : Addr} {vw vr va : V} {w r a : D} {s' : Tau} (g : Gr c I H I' H') (w' : DW K c s' I' H') (rw : Rep K c I' vw w) (rr : Rep K c I' vr r) (ra : Rep K c I' va a) :
    EnvS K c I0 H0 I' (upd H' p (.ins C dx (dskF vw vr va))) σ (ρ.set i (.ow (.dsk C w r a))) s' := by
  have e1 := e.grow g w'
  obtain ⟨p2, hp2, o2⟩ := e1.env.ow hs
  rw [hp] at hp2
  cases hp2
  obtain ⟨h3, h4⟩ := o2.fr
  exact e1.wr hp hs (.dsk upd_same rw rr ra h3 h4)
theorem ss_mut0 (i : Nat) (hm : (m == ("_way" : Str)) = false ∧ (m == ("_row" : Str)) = false ∧ (m == ("_answer" : Str)) = false) : SndS K (tDrop (tMeth C m (spM K C 1 f) [] E0 (tVar i) tNil)) (dMut0 i C f) := fun c I0 H0 I H σ ρ s o s' e h D q => by
  unfold dMut0 at h
  split at h
  · rename_i C' w r a hs
    split at h
    · rename_i hC
      subst hC
      obtain ⟨⟨z, s2⟩, h2, h⟩ := map_some_of h
      cases h
      obtain ⟨p, hp, ow⟩ := e.env.ow hs
      have ow' := ow
      cases ow with
      | @dsk _ dx vw vr va _ _ _ h1 r1 r2 r3 h3 h4 =>
        refine ⟨.ref p, hp, p, dx, _, rfl, h1, fs_none hm, ?_⟩
        exact ⟨rfl, p, [], c, I, [], s, w, r, a, z, s2, rfl, .nil, e.env.sub, e.env.w, ow', h2, fun I' H' dx' vw' vr' va' g w' rw rr ra => q σ I' _ (mut_step e hp hs g w' rw rr ra)⟩
    · cases h
  · cases h
theorem ss_mut1 {n : Nat} (i : Nat) (hx : SndA K tx ax) (hl : ∀ ρ s ds s', ax ρ s = some (ds, s') → ds.length = n) (hm : (m == ("_way" : Str)) = false ∧ (m == ("_row" : Str)) = false ∧ (m == ("_answer" : Str)) = false) : SndS K (tIfS (tB (tNotN (tMeth C m (spM K C (n + 1) f) [] E0 (tVar i) tx))) u tNext) (dMut1 i C f ax) := fun c I0 H0 I H σ ρ s o s' e h D q => by
  unfold dMut1 at h
  split at h
  · rename_i C' w r a hs
    split at h
    · rename_i hC
      subst hC
      obtain ⟨⟨ds, s1⟩, hax, h⟩ := bind_some_of h
      obtain ⟨⟨z, s2⟩, h2, h⟩ := map_some_of h
      cases h
      obtain ⟨p, hp, ow⟩ := e.env.ow hs
      cases ow with
      | @dsk _ dx vw vr va _ _ _ h1 r1 r2 r3 h3 h4 =>
        refine ⟨.ref p, hp, p, dx, _, rfl, h1, fs_none hm, ?_⟩
        refine hx _ _ _ _ _ _ _ _ e.env hax _ fun vs I1 H1 g1 w1 rs => ?_
        have e1 := e.grow g1 w1
        obtain ⟨p2, hp2, ow1⟩ := e1.env.ow hs
        rw [hp] at hp2
        cases hp2
        rw [List.append_nil]
        refine ⟨by rw [List.length_cons, rs.length.trans (hl _ _ _ _ hax)], p, vs, c, I1, ds, s1, w, r, a, z, s2, rfl, rs, g1.s2, w1, ow1, h2, fun I' H' dx' vw' vr' va' g w' rw rr ra => ?_⟩
        refine ⟨_, rfl, ?_⟩
        show (if (!decide ((V.non : V) = .non)) = true then u D σ _ else D.nx σ _)
        rw [show (!decide ((V.non : V) = .non)) = false by simp, if_neg (by decide)]
        exact q σ I' _ (mut_step e1 hp hs g w' rw rr ra)
    · cases h
  · cases h
end
section
variable {X : Cx} {j k n : Nat} {C : Addr} {m x : Str} {f : List D → Tau → Option ((D × D × D) × Tau)} {e : Expr} {es : List Expr} {tx : TA} {ax : Da} {u : TS} {p1 p2 p3 p4 : Pos} {pl : Sem Bool}
structure Mm (CX : CXT) (P : Program) (w : World) (K : PySem.W.Frag) (mg : Str → Option Value) (base : Heap) (k : Nat) (C : Addr) (x : Str) (n : Nat) (f : List D → Tau → Option ((D × D × D) × Tau)) : Prop where
  cls : Cls K C
  h : ∃ (g : Addr) (fd : FuncData) (ps : List Str), ps.length = n ∧ Meth K C x g ∧ FnOk P w K mg base CX k g fd ps (spM ⟨K, P, w⟩ C n f) ∧ Binds K fd ps []
theorem es_mut0 {CX : CXT} (i : Nat) (F : Mm CX X.prog X.w X.K X.mg X.base k C m 1 f) (hr : Room j X.A) (hk : k ≤ j) (hx : Passes CX X E0) (hv : PE X (.Name x p1) (tVar i))
    (hm : (m == ("_way" : Str)) = false ∧ (m == ("_row" : Str)) = false ∧ (m == ("_answer" : Str)) = false := by decide) (hs : swapsWith (.Call (.Attribute (.Name x p1) m p2) [] [] p3) none p4.line X.env = pure false := by rfl)
    (ht : eval (.Call (.Attribute (.Name x p1) m p2) [] [] p3) X.env = (do
      let ov ← eval (.Name x p1) X.env
      standAt p2.atName
      let (f, first) ← holding [ov] (getMethod ov m pl)
      callWith p3 f first (backTo p3 (starEach [] X.env)) (backToKw p3 (keywordEach [] X.env))) := by rfl) :
    ES X (.Expr (.Call (.Attribute (.Name x p1) m p2) [] [] p3) p4) (tDrop (tMeth C m (spM X.kx C 1 f) [] E0 (tVar i) tNil)) (dMut0 i C f) := by
  obtain ⟨g, fd, ps, hn, M, G, b⟩ := F.h
  exact ⟨ps_expr (pe_meth0 (pl := pl) hv F.cls M G (hr.mono hk) b .nil hx ht) hs, ss_mut0 (K := X.kx) i hm⟩
theorem es_mut1 {CX : CXT} {jj : Nat} {p5 p6 p7 : Pos} {body : List Stmt} (i : Nat) (F : Mm CX X.prog X.w X.K X.mg X.base k C m (n + 1) f) (hr : Room j X.A) (hk : k ≤ j) (hx : Passes CX X E0) (hv : PE X (.Name x p1) (tVar i)) (ha : EA X (e :: es) tx ax) (hl : ∀ ρ s ds s', ax ρ s = some (ds, s') → ds.length = n) (hb : PSs X body u)
    (hm : (m == ("_way" : Str)) = false ∧ (m == ("_row" : Str)) = false ∧ (m == ("_answer" : Str)) = false := by decide)
    (hst : starEach (e :: es) X.env = (false, eval e X.env) :: starEach es X.env := by rfl) (hpl : (backTo p3 (starEach es X.env)).any (fun z => z.1) = false := by rfl)
    (ht : eval (.Call (.Attribute (.Name x p1) m p2) (e :: es) [] p3) X.env = (do
      let ov ← eval (.Name x p1) X.env
      standAt p2.atName
      let (f, first) ← holding [ov] (getMethod ov m pl)
      callWith p3 f first (backTo p3 (starEach (e :: es) X.env)) (backToKw p3 (keywordEach [] X.env))) := by rfl) :
    ES X (.If (.Compare (.Call (.Attribute (.Name x p1) m p2) (e :: es) [] p3) [.IsNot] [.Constant .none jj p5] p6) body [] p7) (tIfS (tB (tNotN (tMeth C m (spM X.kx C (n + 1) f) [] E0 (tVar i) tx))) u tNext) (dMut1 i C f ax) := by
  obtain ⟨g, fd, ps, hn, M, G, b⟩ := F.h
  exact ⟨ps_if (pt_cmp (pc_notN (pe_meth (pl := pl) hv F.cls M G (hr.mono hk) b .nil hx ha.p hst hpl ht)) rfl) hb pss_nil, ss_mut1 (K := X.kx) i ha.s hl hm⟩
end
end Dl
end
section
set_option Elab.async false
set_option linter.all false
set_option maxRecDepth 100000
set_option maxHeartbeats 4000000
namespace Dl
open PySem PySem.Spec PyProof.Rows L2 StX RZ HotX
/-! the class Desk: its parts as a generator prints them -/
structure EFld (X : Cx) (st : Stmt) (f : Str) (te : TE) (da : Dn) : Prop where
  p : PS X st (sFld X.K (tVar 0) te f)
  s : SndE X.kx te da
theorem efld_mk {X : Cx} {n f : Str} {p1 p2 p3 : Pos} {ev : Expr} {te : TE} {da : Dn} (ha : PE X (.Name n p1) (tVar 0)) (he : EE X ev te da) (hs : swapsWith ev (some (.Attribute (.Name n p1) f p2)) p3.line X.env = pure false := by rfl) : EFld X (.Assign [.Attribute (.Name n p1) f p2] ev p3) f te da := ⟨ps_fld ha he.p hs, he.s⟩
structure EDrp (X : Cx) (st : Stmt) (te : TE) (da : Dn) : Prop where
  p : PS X st (tDrop te)
  s : SndE X.kx te da
theorem edrp_mk {X : Cx} {e : Expr} {pos : Pos} {te : TE} {da : Dn} (he : EE X e te da) (hs : swapsWith e none pos.line X.env = pure false := by rfl) : EDrp X (.Expr e pos) te da := ⟨ps_expr he.p hs, he.s⟩
structure ELay0 (X : Cx) (C : Addr) (f0 : D → Tau → Option (D × Tau)) (st : Stmt) (tx : TA) (ax : Da) : Prop where
  p : PS X st (tDrop (tMeth C "_lay" (spLay0 X.kx C f0) [] E0 (tVar 0) tx))
  s : SndA X.kx tx ax
theorem elay0_mk {X : Cx} {j k : Nat} {C : Addr} {f0 : D → Tau → Option (D × Tau)} {n : Str} {e : Expr} {tx : TA} {ax : Da} {p1 p2 p3 p4 : Pos} {pl : Sem Bool} (F : Md X.prog X.w X.K X.mg X.base k C "_lay" 2 (fun K => spLay0 K C f0)) (hr : Room j X.A) (hk : k ≤ j) (hv : PE X (.Name n p1) (tVar 0)) (ha : EA X [e] tx ax)
    (hst : starEach [e] X.env = (false, eval e X.env) :: starEach [] X.env := by rfl) (hpl : (backTo p3 (starEach [] X.env)).any (fun z => z.1) = false := by rfl) (hs : swapsWith (.Call (.Attribute (.Name n p1) "_lay" p2) [e] [] p3) none p4.line X.env = pure false := by rfl)
    (ht : eval (.Call (.Attribute (.Name n p1) "_lay" p2) [e] [] p3) X.env = (do
      let ov ← eval (.Name n p1) X.env
      standAt p2.atName
      let (f, first) ← holding [ov] (getMethod ov "_lay" pl)
      callWith p3 f first (backTo p3 (starEach [e] X.env)) (backToKw p3 (keywordEach [] X.env))) := by rfl) :
    ELay0 X C f0 (.Expr (.Call (.Attribute (.Name n p1) "_lay" p2) [e] [] p3) p4) tx ax := by
  obtain ⟨g, fd, ps, hn, M, G, b⟩ := F.h
  exact ⟨ps_expr (pe_meth (pl := pl) hv F.cls M G (hr.mono hk) b .nil pass0 ha.p hst hpl ht) hs, ha.s⟩
section
variable {P : Program} {w : World} {K : PySem.W.Frag} {mg : Str → Option Value} {base : Heap} {x qual : Str} {params : Arguments} {body : List Stmt} {scope : Scope} {f C : Addr} {fd : FuncData} {CX : CXT}
theorem lay_ok' {k : Nat} {st1 st2 : Stmt} {dl : Dn} (F : FunD K x qual params body scope [] [] f fd) (S : FnScope ["self", "row"] ["self", "row"] scope) (hbody : body = [st1, st2]) (hc : Cls K C) (hn1 : NoAttr K C "_row") (hn2 : NoAttr K C "_answer")
    (hb : ∀ (cdv : Value) (A : Around) (outer : List PySem.Env) (s : Shared) (H : Hp) (E : XK), Room k (A.deeper (envOfC qual scope s.heap.objs.size f cdv)) →
      EFld (cxOf CX P w K mg base ["self", "row"] qual scope f cdv A outer s H E) st1 "_row" (tVar 1) (dVar 1) ∧ ∃ te, EFld (cxOf CX P w K mg base ["self", "row"] qual scope f cdv A outer s H E) st2 "_answer" te dl) :
    FnOk P w K mg base CX (k + 1) f fd ["self", "row"] (spLay ⟨K, P, w⟩ C fun w a row s => dl [.im (.dsk C w row a), .im row] s) :=
  lay_ok F S hbody hc hn1 hn2 fun cdv A outer s H E hr => by
    obtain ⟨h1, te, h2⟩ := hb cdv A outer s H E hr
    exact ⟨h1.p, te, dl, h2.p, h2.s, fun _ _ _ _ => rfl⟩
theorem lay0_ok' {k : Nat} {st1 st2 : Stmt} {dl : Dn} (F : FunD K x qual params body scope [] [] f fd) (S : FnScope ["self", "row"] ["self", "row"] scope) (hbody : body = [st1, st2]) (hc : Cls K C) (hn1 : NoAttr K C "_row") (hn2 : NoAttr K C "_answer") (hd : ∀ (p : V) (row : D) (s : Tau), dl [.im (.fn p), .im row] s = dl [.im (.fn .non), .im row] s)
    (hb : ∀ (cdv : Value) (A : Around) (outer : List PySem.Env) (s : Shared) (H : Hp) (E : XK), Room k (A.deeper (envOfC qual scope s.heap.objs.size f cdv)) →
      EFld (cxOf CX P w K mg base ["self", "row"] qual scope f cdv A outer s H E) st1 "_row" (tVar 1) (dVar 1) ∧ ∃ te, EFld (cxOf CX P w K mg base ["self", "row"] qual scope f cdv A outer s H E) st2 "_answer" te dl) :
    FnOk P w K mg base CX (k + 1) f fd ["self", "row"] (spLay0 ⟨K, P, w⟩ C fun row s => dl [.im (.fn .non), .im row] s) :=
  lay0_ok F S hbody hc hn1 hn2 fun cdv A outer s H E hr => by
    obtain ⟨h1, te, h2⟩ := hb cdv A outer s H E hr
    exact ⟨h1.p, te, dl, h2.p, h2.s, hd⟩
/-- what __init__ does: the way is asked, an empty row is laid -/
def initD (fw : Fn) (dl : Dn) : D → Tau → Option ((D × D) × Tau) := fun w s => (fw [w] s).bind fun r => (dl [.im (.fn .non), .im (.tup [])] r.2).bind fun q => if nod q.1 = true then some ((.tup [], q.1), q.2) else none
theorem init_ok' {k : Nat} {st1 st2 st3 : Stmt} {fw : Fn} {dl : Dn} (F : FunD K x qual params body scope [] [] f fd) (S : FnScope ["self", "way"] ["self", "way"] scope) (hbody : body = [st1, st2, st3]) (hc : Cls K C) (hn1 : NoAttr K C "_way")
    (hb : ∀ (cdv : Value) (A : Around) (outer : List PySem.Env) (s : Shared) (H : Hp) (E : XK), Room k (A.deeper (envOfC qual scope s.heap.objs.size f cdv)) →
      ∃ (te : TE) (tx : TA), EDrp (cxOf CX P w K mg base ["self", "way"] qual scope f cdv A outer s H E) st1 te (dCall fw (dCons (dVar 1) dNil)) ∧ EFld (cxOf CX P w K mg base ["self", "way"] qual scope f cdv A outer s H E) st2 "_way" (tVar 1) (dVar 1) ∧
      ELay0 (cxOf CX P w K mg base ["self", "way"] qual scope f cdv A outer s H E) C (fun row s => dl [.im (.fn .non), .im row] s) st3 tx (dCons (dTup dNil) dNil)) :
    FnOk P w K mg base CX (k + 1) f fd ["self", "way"] (spInit ⟨K, P, w⟩ C (initD fw dl)) :=
  init_ok (f0 := fun row s => dl [.im (.fn .non), .im row] s) F S hbody hc hn1 fun cdv A outer s H E hr => by
    obtain ⟨te, tx, h1, h2, h3⟩ := hb cdv A outer s H E hr
    refine ⟨te, _, tx, _, h1.p, h1.s, h2.p, h3.p, h3.s, fun p w0 s r a s' hf => ?_⟩
    obtain ⟨⟨⟨d1, o1⟩, s1⟩, e1, hf⟩ := bind_some_of hf
    obtain ⟨⟨q, s2⟩, e2, hf⟩ := bind_some_of hf
    dsimp only at hf
    split at hf
    · rename_i na
      cases hf
      refine ⟨d1, s1, s1, ?_, rfl, rfl, e2, na⟩
      show (Option.map _ (fw [w0] s)) = _
      rw [e1]; rfl
    · cases hf
end
/-! a property's getter, as the head tells it -/
def gtA (K : PySem.W.Frag) (C : Addr) (x : Str) : Addr := match PySem.W.recIn K (He.ma K C x) "property" with
  | some (.ref g :: _) => g
  | _ => 0
def gtW (K : PySem.W.Frag) (g : Addr) : He.FnW := match K.lookup g with
  | some ⟨_, _, .func fd, _⟩ => some (fd.name, fd.qualname, fd.params, fd.body, fd.scope, fd.globals, fd.closure, fd.builtins)
  | _ => none
def gtB (K : PySem.W.Frag) (g : Addr) (q : Str) : Bool := PySem.W.keepIn K (.ref g) && (match K.lookup g with
  | some ⟨_, _, .func fd, _⟩ => PySem.W.codeIn K fd.code q && (He.dflB K fd.defaults [] && He.kwdB K fd.kwdefaults [])
  | _ => false)
theorem gt_ok {K : PySem.W.Frag} {g : Addr} {nm q : Str} {params : Arguments} {body : List Stmt} {scope : Scope} (e : gtW K g = some (nm, q, params, FuncBody.stmts body, scope, mainGlobals, [], builtinsNs)) (c : gtB K g q = true) : ∃ fd, FunD K nm q params body scope [] [] g fd := by
  obtain ⟨kp, c2⟩ := He.ba c
  unfold gtW at e
  cases h : K.lookup g with
  | none => rw [h] at c2; cases c2
  | some o =>
    obtain ⟨oc, od, dt, osl⟩ := o
    rw [h] at c2 e
    cases dt with
    | func fd =>
      obtain ⟨n1, n2, n3, n4, n5, n6, n7, n8, n9, n10, n11, n12, n13, n14, n15⟩ := fd
      have e2 : (some (n1, n2, n3, n4, n5, n6, n7, n15) : He.FnW) = some (nm, q, params, FuncBody.stmts body, scope, mainGlobals, [], builtinsNs) := e
      simp only [Option.some.injEq, Prod.mk.injEq] at e2
      obtain ⟨h1, h2, h3, h4, h5, h6, h7, h8⟩ := e2
      subst h1 h2 h3 h4 h5 h6 h7 h8
      obtain ⟨k1, k2⟩ := He.ba c2
      obtain ⟨k3, k4⟩ := He.ba k2
      exact ⟨_, ⟨oc, od, n8, n9, n10, n11, n12, n13, n14, osl, rfl, h, k1, He.dflB_ok k3, He.kwdB_ok k4⟩, kp⟩
    | _ => cases c2
def prB (K : PySem.W.Frag) (C : Addr) (x : Str) : Bool := (He.eqO (PySem.W.findIn K (.ref C) x) (some (some (.ref (He.ma K C x)))) && bltB "property.__get__" (PySem.W.specialIn K (.ref (He.ma K C x)) "__get__")) && (trB (PySem.W.takesIn K (.ref (He.ma K C x))) && (match PySem.W.recIn K (He.ma K C x) "property" with
  | some (.ref g :: _) => true
  | _ => false))
theorem prB_ok {K : PySem.W.Frag} {C : Addr} {x : Str} (h : prB K C x = true) : PropOf K C x (He.ma K C x) (gtA K C x) := by
  obtain ⟨h1, h2⟩ := He.ba h
  obtain ⟨a1, a2⟩ := He.ba h1
  obtain ⟨b1, b2⟩ := He.ba h2
  refine ⟨He.eqO_ok a1, bltB_ok a2, trB_ok b1, ?_⟩
  unfold gtA
  split at b2
  · rename_i g rest e
    rw [e]
    exact ⟨rest, rfl⟩
  · cases b2
end Dl
namespace Dl
open PySem PySem.Spec PyProof.Rows L2 StX
/-! str(i) -/
def strID : List D → Option D
  | [.int i] => if decide (i.natAbs.log2 < 1920) = true then some (.str (toString i)) else none
  | _ => none
theorem sl_strI {K : Kx} : SndL K (fun xs H Q => ∃ i : Int, xs = [V.int i] ∧ i.natAbs.log2 < 1920 ∧ Q (.str (toString i)) H) strID := fun c I H xs ds z s rx h Q q => by
  unfold strID at h
  split at h
  · split at h
    · rename_i hl
      cases h
      cases rx with
      | cons a r => cases r; cases a; exact ⟨_, rfl, of_decide_eq_true hl, q.val s (.str _)⟩
    · cases h
  · cases h
end Dl
end
section
set_option Elab.async false
set_option linter.all false
set_option maxRecDepth 100000
set_option maxHeartbeats 4000000
namespace Dl
open PySem PySem.Spec PyProof.Rows L2 StX
/-! t[lo:hi], not the whole of it: a tuple whose object bears nothing -/
def rSlF (K : PySem.W.Frag) : V → Option Int → Option Int → Hp → VK → Prop := fun x lo hi H Q => ∃ a xs, x = .ref a ∧ SqT K H a xs ∧
  ¬ (HT.sIx xs.length 0 lo = 0 ∧ HT.sIx xs.length xs.length hi = xs.length) ∧ ∀ (p : Addr) (o : Obj), H p = none → TupO o → Q (.ref p) (upd H p (.frz o (.tup (cutV xs lo hi))))
theorem sl_tupF {X : Cx} : SlR X (rSlF X.K) := by
  intro pins s σ H x v vl vu lo hi sl Q I rx hs pl pu h
  obtain ⟨a, xs, rfl, hx, hw, q⟩ := h
  cases rx
  obtain ⟨its, r, ht, hz⟩ := I.tuple hx
  have hlen : its.toArray.size = xs.length := by rw [List.size_toArray]; exact r.length.symm
  refine ⟨"tuple", _, PyProof.Rows.slot_tuple_getitem.lookup, ht.typeIs, ?_⟩
  refine HT.getItem_tuple_cut ht hs pl pu (by rw [hlen]; exact hw) ?_ (by rw [hlen]; exact hz)
  rw [hlen]
  have hg : (s.heap.push { cls := .type "tuple", data := .seq ((its.toArray.toList.drop (HT.sIx xs.length 0 lo)).take (HT.sIx xs.length xs.length hi - HT.sIx xs.length 0 lo)).toArray }).get? s.heap.objs.size = some { cls := .type "tuple", data := .seq ((its.toArray.toList.drop (HT.sIx xs.length 0 lo)).take (HT.sIx xs.length xs.length hi - HT.sIx xs.length 0 lo)).toArray } := Heap.get?_push_size _ rfl
  refine ⟨.ref s.heap.objs.size, _, I.laid (t' := s.toks) (o := .frz { cls := .type "tuple", data := .seq ((its.toArray.toList.drop (HT.sIx xs.length 0 lo)).take (HT.sIx xs.length xs.length hi - HT.sIx xs.length 0 lo)).toArray } (.tup (cutV xs lo hi))) (fun b ob q => Heap.get?_push_of_some _ q) (Nat.le_refl _) ?_, rfl, q _ _ (I.hok.fresh (Nat.le_refl _)) ⟨rfl, rfl⟩⟩
  exact ⟨hg, Nat.le_trans (cutV_length xs lo hi) hz, _, (r.drop (HT.sIx xs.length 0 lo)).take (HT.sIx xs.length xs.length hi - HT.sIx xs.length 0 lo), _, hg, rfl, _, rfl⟩
def slF : D → Option Int → Option Int → Option D := fun d lo hi => d.asT.bind fun xs => if HT.sIx xs.length 0 lo = 0 ∧ HT.sIx xs.length xs.length hi = xs.length then none else some (.tup (cutL xs lo hi))
theorem ss_slF {K : Kx} : SndSl K (rSlF K) slF := fun c I H x d lo hi z s rx h Q q => by
  obtain ⟨xs, h1, h2⟩ := bind_some_of h
  split at h2
  · cases h2
  · rename_i hw
    cases h2
    obtain ⟨a, vs, rfl, ha, ra⟩ := rx.asT h1
    have hl := ra.length
    exact ⟨a, vs, rfl, s.sqT ha, by rw [hl]; exact hw, fun p o hp ho => q.tup s hp ho (ra.cut lo hi)⟩
section
variable {X : Cx} {a : Expr} {ta : TE} {da : Dn} {pos : Pos}
theorem ee_slF {lo hi : Option Expr} {tl th : TO} {dl dh : Do} {p2 : Pos} (ha : EE X a ta da) (hl : EO X lo tl dl) (hh : EO X hi th dh) : EE X (.Subscript a (.Slice lo hi none p2) pos) (tSl (rSlF X.kx) ta tl th) (dSl slF da dl dh) :=
  ⟨pe_slice sl_tupF ha.p hl.p hh.p, sn_sl ha.s hl.s hh.s ss_slF⟩
end
end Dl
end
section
set_option Elab.async false
set_option linter.all false
set_option maxRecDepth 100000
set_option maxHeartbeats 4000000
namespace Dl
open PySem L2 PyProof.Rows
/-! plain facts of the data's meanings -/
theorem shaped_str {x : Str} (h : PyData.strOk x = true) : SeqAt.shaped (.str x) = true := by
  unfold SeqAt.shaped
  rw [Bool.and_eq_true]
  exact ⟨h, rfl⟩
theorem eqB_str {a b : Str} (ha : PyData.strOk a = true) (hb : PyData.strOk b = true) : eqB (.str a) (.str b) = some (a == b) := by
  unfold eqB
  show (if (SeqAt.shaped (.str a) && SeqAt.shaped (.str b)) = true then some (PyData.eqv (.str a) (.str b)) else none) = _
  rw [if_pos (by rw [shaped_str ha, shaped_str hb]; rfl)]
  rfl
theorem eqD_str {a b : Str} (ha : PyData.strOk a = true) (hb : PyData.strOk b = true) : eqD (.str a) (.str b) = some (.bl (a == b)) := by
  unfold eqD; rw [eqB_str ha hb]; rfl
theorem neD_str {a b : Str} (ha : PyData.strOk a = true) (hb : PyData.strOk b = true) : neD (.str a) (.str b) = some (.bl (!(a == b))) := by
  unfold neD; rw [eqB_str ha hb]; rfl
theorem eqD_int (a b : Int) : eqD (.int a) (.int b) = some (.bl (a == b)) := rfl
theorem neD_int (a b : Int) : neD (.int a) (.int b) = some (.bl (!(a == b))) := rfl
theorem eqD_bl (a b : Bool) : eqD (.bl a) (.bl b) = some (.bl (a == b)) := rfl
theorem neD_bl (a b : Bool) : neD (.bl a) (.bl b) = some (.bl (!(a == b))) := rfl
/-- equal data -/
theorem eqB_of {d e : D} {x y : PyData} (hx : d.conv = some x) (hy : e.conv = some y) (sx : SeqAt.shaped x = true) (sy : SeqAt.shaped y = true) : eqB d e = some (PyData.eqv x y) := by
  unfold eqB
  rw [hx, hy]
  show (if (SeqAt.shaped x && SeqAt.shaped y) = true then some (PyData.eqv x y) else none) = _
  rw [if_pos (by rw [sx, sy]; rfl)]
theorem eqD_refl {d e : D} {x : PyData} (hx : d.conv = some x) (hy : e.conv = some x) (sx : SeqAt.shaped x = true) : eqD d e = some (.bl true) := by
  unfold eqD
  rw [eqB_of hx hy sx sx, SeqAt.eqv_refl x (SeqAt.canLay_of_shaped sx)]; rfl
/-! control -/
section
variable {t : Dt} {a b c : Ds} {ρ : List Sl} {s s1 s2 : Tau} {d : D} {o : Bool} {r : Option (Rs × Tau)} {f : Fn} {dn : Ds} {m : Nat} {ds : List D}
theorem seq_ifT (h : t ρ s = some (true, s1)) (h2 : a ρ s1 = some (.rt d o, s2)) : dSeq (dIfS t a b) c ρ s = some (.rt d o, s2) := by
  unfold dSeq dIfS
  rw [h]
  show ((if true = true then a ρ s1 else b ρ s1).bind _) = _
  rw [if_pos rfl, h2]; rfl
theorem seq_ifF (h : t ρ s = some (false, s1)) (h2 : c ρ s1 = r) : dSeq (dIfS t a dNext) c ρ s = r := by
  unfold dSeq dIfS
  rw [h]; exact h2
theorem sT (h : t ρ s = some (true, s)) (h2 : a ρ s = some (.rt d o, s2)) : dSeq (dIfS t a b) c ρ s = some (.rt d o, s2) := seq_ifT h h2
theorem sF (h : t ρ s = some (false, s)) (h2 : c ρ s = r) : dSeq (dIfS t a dNext) c ρ s = r := seq_ifF h h2
theorem sN {ρ1 : List Sl} (h : a ρ s = some (.nx ρ1, s)) (h2 : b ρ1 s = r) : dSeq a b ρ s = r := by
  unfold dSeq
  rw [h]; exact h2
theorem sA {ρ1 : List Sl} (h : t ρ s = some (true, s)) (h2 : a ρ s = some (.nx ρ1, s)) (h3 : c ρ1 s = r) : dSeq (dIfS t a b) c ρ s = r := by
  unfold dSeq dIfS
  rw [h]
  show ((if true = true then a ρ s else b ρ s).bind _) = _
  rw [if_pos rfl, h2]; exact h3
theorem seq_nx {ρ1 : List Sl} (h : a ρ s = some (.nx ρ1, s1)) (h2 : b ρ1 s1 = r) : dSeq a b ρ s = r := by
  unfold dSeq
  rw [h]; exact h2
theorem seq_rt (h : a ρ s = some (.rt d o, s1)) : dSeq a b ρ s = some (.rt d o, s1) := by
  unfold dSeq
  rw [h]; rfl
theorem ifT (h : t ρ s = some (true, s1)) (h2 : a ρ s1 = r) : dIfS t a b ρ s = r := by
  unfold dIfS
  rw [h]; exact h2
theorem ifF (h : t ρ s = some (false, s1)) (h2 : b ρ s1 = r) : dIfS t a b ρ s = r := by
  unfold dIfS
  rw [h]; exact h2
theorem ret_of {x : Dn} (h : x ρ s = some (d, s1)) : dRet x ρ s = some (.rt d false, s1) := by
  unfold dRet
  rw [h]; rfl
theorem fn_rt {m : Nat} {ds : List D} (h : dn (ds.map Sl.im ++ List.replicate (m - ds.length) .un) s = some (.rt d o, s1)) : fnD m dn ds s = some ((d, o), s1) := by
  unfold fnD
  rw [h]; rfl
theorem fn_nx {m : Nat} {ds : List D} {ρ1 : List Sl} (h : dn (ds.map Sl.im ++ List.replicate (m - ds.length) .un) s = some (.nx ρ1, s1)) : fnD m dn ds s = some ((.non, false), s1) := by
  unfold fnD
  rw [h]; rfl
theorem call_of {ax : Da} {xs : List D} (h : ax ρ s = some (xs, s1)) (h2 : f xs s1 = some ((d, o), s2)) : dCall f ax ρ s = some (d, s2) := by
  unfold dCall
  rw [h]
  show Option.map _ (f xs s1) = _
  rw [h2]; rfl
end
/-! values -/
section
variable {ρ : List Sl} {s s1 s2 : Tau} {x y z : D} {da db : Dn} {ax ar : Da} {b : Bool} {bt : Dt}
theorem op_of {f : D → D → Option D} (h1 : da ρ s = some (x, s1)) (h2 : db ρ s1 = some (y, s2)) (h3 : f x y = some z) : dOp f da db ρ s = some (z, s2) := by
  unfold dOp
  rw [h1]
  show Option.bind (db ρ s1) _ = _
  rw [h2]
  show Option.map _ (f x y) = _
  rw [h3]; rfl
theorem un_of {f : D → Option D} (h1 : da ρ s = some (x, s1)) (h3 : f x = some z) : dUn f da ρ s = some (z, s1) := by
  unfold dUn
  rw [h1]
  show Option.map _ (f x) = _
  rw [h3]; rfl
theorem cons_of {xs : List D} (h1 : da ρ s = some (x, s1)) (h2 : ar ρ s1 = some (xs, s2)) : dCons da ar ρ s = some (x :: xs, s2) := by
  unfold dCons
  rw [h1]
  show Option.map _ (ar ρ s1) = _
  rw [h2]; rfl
theorem one_of (h1 : da ρ s = some (x, s1)) : dCons da dNil ρ s = some ([x], s1) := cons_of h1 rfl
theorem callB_of {f : List D → Option D} {xs : List D} (h1 : ax ρ s = some (xs, s1)) (h3 : f xs = some z) : dCallB f ax ρ s = some (z, s1) := by
  unfold dCallB
  rw [h1]
  show Option.map _ (f xs) = _
  rw [h3]; rfl
theorem b_of (h1 : da ρ s = some (.bl b, s1)) : dB da ρ s = some (b, s1) := by
  unfold dB
  rw [h1]; rfl
theorem not_of (h1 : bt ρ s = some (b, s1)) : dNot bt ρ s = some (!b, s1) := by
  unfold dNot
  rw [h1]; rfl
theorem asg_of {i : Nat} (h1 : da ρ s = some (x, s1)) : dAsg da (gdName i) ρ s = some (.nx (ρ.set i (.im x)), s1) := by
  unfold dAsg
  rw [h1]; rfl
theorem drop_of (h1 : da ρ s = some (x, s1)) : dDrop da ρ s = some (.nx ρ, s1) := by
  unfold dDrop
  rw [h1]; rfl
theorem iT {r : Option (D × Tau)} (h1 : bt ρ s = some (true, s)) (h2 : da ρ s = r) : dIf bt da db ρ s = r := by
  unfold dIf
  rw [h1]; exact h2
theorem iF {r : Option (D × Tau)} (h1 : bt ρ s = some (false, s)) (h2 : db ρ s = r) : dIf bt da db ρ s = r := by
  unfold dIf
  rw [h1]; exact h2
theorem iteT {r : Option (D × Tau)} (h1 : bt ρ s = some (true, s1)) (h2 : da ρ s1 = r) : dIf bt da db ρ s = r := by
  unfold dIf
  rw [h1]; exact h2
theorem iteF {r : Option (D × Tau)} (h1 : bt ρ s = some (false, s1)) (h2 : db ρ s1 = r) : dIf bt da db ρ s = r := by
  unfold dIf
  rw [h1]; exact h2
theorem ifE_of (h1 : bt ρ s = some (b, s1)) (h2 : b = true → da ρ s1 = some (x, s2)) (h3 : b = false → db ρ s1 = some (x, s2)) : dIf bt da db ρ s = some (x, s2) := by
  unfold dIf
  rw [h1]
  cases b with
  | true => exact h2 rfl
  | false => exact h3 rfl
theorem ifE_val (h1 : bt ρ s = some (b, s1)) (h2 : da ρ s1 = some (x, s2)) (h3 : db ρ s1 = some (y, s2)) : dIf bt da db ρ s = some (if b then x else y, s2) := by
  unfold dIf
  rw [h1]
  cases b with
  | true => exact h2
  | false => exact h3
theorem orF_of {a b : Dt} {r : Option (Bool × Tau)} (h1 : a ρ s = some (false, s1)) (h2 : b ρ s1 = r) : dOr a b ρ s = r := by
  unfold dOr
  rw [h1]; exact h2
theorem orT_of {a b : Dt} (h1 : a ρ s = some (true, s1)) : dOr a b ρ s = some (true, s1) := by
  unfold dOr
  rw [h1]; rfl
theorem or_val {a b : Dt} {x y : Bool} (h1 : a ρ s = some (x, s1)) (h2 : x = false → b ρ s1 = some (y, s1)) : dOr a b ρ s = some (x || y, s1) := by
  cases x with
  | true => exact orT_of h1
  | false => exact orF_of h1 (h2 rfl)
theorem andT_of {a b : Dt} {r : Option (Bool × Tau)} (h1 : a ρ s = some (true, s1)) (h2 : b ρ s1 = r) : dAnd a b ρ s = r := by
  unfold dAnd
  rw [h1]; exact h2
theorem andF_of {a b : Dt} (h1 : a ρ s = some (false, s1)) : dAnd a b ρ s = some (false, s1) := by
  unfold dAnd
  rw [h1]; rfl
theorem and_val {a b : Dt} {x y : Bool} (h1 : a ρ s = some (x, s1)) (h2 : x = true → b ρ s1 = some (y, s1)) : dAnd a b ρ s = some (x && y, s1) := by
  cases x with
  | true => exact andT_of h1 (h2 rfl)
  | false => exact andF_of h1
theorem andVT_of {r : Option (D × Tau)} (h1 : da ρ s = some (.bl true, s1)) (h2 : db ρ s1 = r) : dAndV da db ρ s = r := by
  unfold dAndV
  rw [h1]; exact h2
theorem andVF_of (h1 : da ρ s = some (.bl false, s1)) : dAndV da db ρ s = some (.bl false, s1) := by
  unfold dAndV
  rw [h1]; rfl
theorem andV_val {x y : Bool} (h1 : da ρ s = some (.bl x, s1)) (h2 : x = true → db ρ s1 = some (.bl y, s1)) : dAndV da db ρ s = some (.bl (x && y), s1) := by
  cases x with
  | true => exact andVT_of h1 (h2 rfl)
  | false => exact andVF_of h1
theorem orVF_of {r : Option (D × Tau)} (h1 : da ρ s = some (.bl false, s1)) (h2 : db ρ s1 = r) : dOrV da db ρ s = r := by
  unfold dOrV
  rw [h1]; exact h2
theorem orVT_of (h1 : da ρ s = some (.bl true, s1)) : dOrV da db ρ s = some (.bl true, s1) := by
  unfold dOrV
  rw [h1]; rfl
theorem orV_val {x y : Bool} (h1 : da ρ s = some (.bl x, s1)) (h2 : x = false → db ρ s1 = some (.bl y, s1)) : dOrV da db ρ s = some (.bl (x || y), s1) := by
  cases x with
  | true => exact orVT_of h1
  | false => exact orVF_of h1 (h2 rfl)
theorem chain_val {f g : D → D → Option D} {dc : Dn} {w : D} {b c : Bool} (h1 : da ρ s = some (x, s1)) (h2 : db ρ s1 = some (y, s1)) (h3 : f x y = some (.bl b)) (h4 : dc ρ s1 = some (w, s1)) (h5 : g y w = some (.bl c)) : dChain f g da db dc ρ s = some (.bl (b && c), s1) := by
  unfold dChain
  rw [h1]
  show Option.bind (db ρ s1) _ = _
  rw [h2]
  show Option.bind (f x y) _ = _
  rw [h3]
  cases b with
  | false => rfl
  | true =>
    show Option.bind (dc ρ s1) _ = _
    rw [h4]
    show Option.map _ (g y w) = _
    rw [h5]; rfl
theorem sl_of {lo hi : Do} {l h : Option Int} {s3 : Tau} (h1 : da ρ s = some (x, s1)) (h2 : lo ρ s1 = some (l, s2)) (h3 : hi ρ s2 = some (h, s3)) (h4 : slD x l h = some z) : dSl slD da lo hi ρ s = some (z, s3) := by
  unfold dSl
  rw [h1]
  show Option.bind (lo ρ s1) _ = _
  rw [h2]
  show Option.bind (hi ρ s2) _ = _
  rw [h3]
  show Option.map _ (slD x l h) = _
  rw [h4]; rfl
theorem some_of {i : Int} (h1 : da ρ s = some (.int i, s1)) : dSome da ρ s = some (some i, s1) := by
  unfold dSome
  rw [h1]; rfl
theorem methS_of {f : Str → List D → Option D} {t : Str} {xs : List D} (h1 : da ρ s = some (.str t, s1)) (h2 : ax ρ s1 = some (xs, s2)) (h3 : f t xs = some z) : dMethS f da ax ρ s = some (z, s2) := by
  unfold dMethS
  rw [h1]
  show Option.bind (ax ρ s1) _ = _
  rw [h2]
  show Option.map _ (f t xs) = _
  rw [h3]; rfl
theorem itS_of {t : Str} (h1 : da ρ s = some (.str t, s1)) : dItS da ρ s = some (chL t, s1) := by
  unfold dItS
  rw [h1]; rfl
theorem itL_of {xs : List D} (h1 : da ρ s = some (.lst xs, s1)) : dItL da ρ s = some (xs, s1) := by
  unfold dItL
  rw [h1]; rfl
theorem itT_of {xs : List D} (h1 : da ρ s = some (x, s1)) (h2 : x.asT = some xs) : dItT da ρ s = some (xs, s1) := by
  unfold dItT
  rw [h1]
  show Option.map _ x.asT = _
  rw [h2]; rfl
theorem enT_of {xs : List D} (h1 : ax ρ s = some ([x], s1)) (h2 : x.asT = some xs) : dEnT ax ρ s = some (enumL 0 xs, s1) := by
  unfold dEnT
  rw [h1]
  show Option.map _ x.asT = _
  rw [h2]; rfl
theorem dp_cons {dr : Dp2} {k : Str} {es : List (Str × D)} {s3 : Tau} (h1 : da ρ s = some (.str k, s1)) (h2 : db ρ s1 = some (x, s2)) (h3 : dr ρ s2 = some (es, s3)) : dpCons da db dr ρ s = some ((k, x) :: es, s3) := by
  unfold dpCons
  rw [h1]
  show Option.bind (db ρ s1) _ = _
  rw [h2]
  show Option.map _ (dr ρ s2) = _
  rw [h3]; rfl
theorem disp_of {dr : Dp2} {es : List (Str × D)} (h1 : dr ρ s = some (es, s1)) (hl : es.length ≤ 15) : dDisp dr ρ s = some (.dS (mergeD [] es), s1) := by
  unfold dDisp
  rw [h1]
  show (if es.length ≤ 15 then _ else _) = _
  rw [if_pos hl]
theorem tup_of {xs : List D} (h1 : ax ρ s = some (xs, s1)) (hl : xs.length ≤ 1000000) : dTup ax ρ s = some (.tup xs, s1) := by
  unfold dTup
  rw [h1]
  show (if xs.length ≤ 1000000 then _ else _) = _
  rw [if_pos hl]
theorem lst_of {xs : List D} (h1 : ax ρ s = some (xs, s1)) (hl : xs.length ≤ 1000000) : dLst ax ρ s = some (.lst xs, s1) := by
  unfold dLst
  rw [h1]
  show (if xs.length ≤ 1000000 then _ else _) = _
  rw [if_pos hl]
theorem star_of {xs ys : List D} (h1 : da ρ s = some (x, s1)) (h2 : x.its = some xs) (h3 : ar ρ s1 = some (ys, s2)) : dStar da ar ρ s = some (xs ++ ys, s2) := by
  unfold dStar
  rw [h1]
  show Option.bind x.its _ = _
  rw [h2]
  show Option.map _ (ar ρ s1) = _
  rw [h3]; rfl
theorem par_of {i j : Nat} (h1 : ax ρ s = some ([x, y], s1)) : dPar i j ax ρ s = some (.nx ((ρ.set i (.im x)).set j (.im y)), s1) := by
  unfold dPar
  rw [h1]; rfl
theorem asg2_of {i j : Nat} (h1 : da ρ s = some (.tup [x, y], s1)) : dAsg da (gdTup 2 (gdCons (gdName i) (gdCons (gdName j) gdNil))) ρ s = some (.nx ((ρ.set i (.im x)).set j (.im y)), s1) := by
  unfold dAsg
  rw [h1]; rfl
theorem ix_of {xs : List D} {i : Nat} (h : x.its = some xs) (h2 : xs[i]? = some z) : ixD x (.int (i : Nat)) = some z := by
  have key : atI xs (i : Int) = xs[i]? := by
    unfold atI ixN
    rw [if_pos (by omega)]
    by_cases z : (i : Int) < xs.length
    · rw [if_pos z]; rfl
    · rw [if_neg z, List.getElem?_eq_none (by omega)]; rfl
  cases x with
  | tup => cases h; exact key.trans h2
  | ktp => cases h; exact key.trans h2
  | lst => cases h; exact key.trans h2
  | _ => cases h
end
/-! comprehensions, loops -/
section
variable {α : Type} {g : Dg} {bt : Dt} {de : Dn} {di : Da} {vs : List Nat} {ρ : List Sl} {s : Tau}
theorem lcGo_map (enc : α → D) (p : α → Bool) (f : α → D) : ∀ (ys : List α), (∀ y ∈ ys, ∃ ρ1, g (enc y) ρ = some ρ1 ∧ bt ρ1 s = some (p y, s) ∧ (p y = true → de ρ1 s = some (f y, s))) →
    lcGo g bt de ρ (ys.map enc) s = some ((ys.filter p).map f, s)
  | [], _ => rfl
  | y :: ys, h => by
    obtain ⟨ρ1, h1, h2, h3⟩ := h y List.mem_cons_self
    have ih := lcGo_map enc p f ys fun z hz => h z (List.mem_cons_of_mem _ hz)
    show ((g (enc y) ρ).bind fun ρ1 => (bt ρ1 s).bind fun b => if b.1 = true then (de ρ1 b.2).bind fun z => (lcGo g bt de ρ (ys.map enc) z.2).map fun r => (z.1 :: r.1, r.2) else lcGo g bt de ρ (ys.map enc) b.2) = _
    rw [h1]
    show ((bt ρ1 s).bind fun b => if b.1 = true then (de ρ1 b.2).bind fun z => (lcGo g bt de ρ (ys.map enc) z.2).map fun r => (z.1 :: r.1, r.2) else lcGo g bt de ρ (ys.map enc) b.2) = _
    rw [h2]
    cases q : p y with
    | false =>
      rw [List.filter_cons_of_neg (by rw [q]; decide)]
      exact ih
    | true =>
      rw [List.filter_cons_of_pos q]
      show ((de ρ1 s).bind fun z => (lcGo g bt de ρ (ys.map enc) z.2).map fun r => (z.1 :: r.1, r.2)) = _
      rw [h3 q]
      show (lcGo g bt de ρ (ys.map enc) s).map (fun r => (f y :: r.1, r.2)) = _
      rw [ih]; rfl
theorem lc_map (enc : α → D) (p : α → Bool) (f : α → D) (ys : List α) (hi : di ρ s = some (ys.map enc, s)) (hl : ys.length ≤ 1000000)
    (h : ∀ y ∈ ys, ∃ ρ1, g (enc y) (wipeD ρ vs) = some ρ1 ∧ bt ρ1 s = some (p y, s) ∧ (p y = true → de ρ1 s = some (f y, s))) :
    dLc di g bt de vs ρ s = some (.lst ((ys.filter p).map f), s) := by
  unfold dLc
  rw [hi]
  show (if (ys.map enc).length ≤ 1000000 then (lcGo g bt de (wipeD ρ vs) (ys.map enc) s).map fun r => (D.lst r.1, r.2) else none) = _
  rw [if_pos (by rw [List.length_map]; exact hl), lcGo_map enc p f ys h]; rfl
theorem lc_all (enc : α → D) (f : α → D) (ys : List α) (hi : di ρ s = some (ys.map enc, s)) (hl : ys.length ≤ 1000000)
    (h : ∀ y ∈ ys, ∃ ρ1, g (enc y) (wipeD ρ vs) = some ρ1 ∧ de ρ1 s = some (f y, s)) :
    dLc di g dYes de vs ρ s = some (.lst (ys.map f), s) := by
  have e := lc_map (bt := dYes) enc (fun _ => true) f ys hi hl fun y hy => by
    obtain ⟨ρ1, h1, h2⟩ := h y hy
    exact ⟨ρ1, h1, rfl, fun _ => h2⟩
  rw [e, List.filter_eq_self.mpr fun _ _ => rfl]
/-- draws in a comprehension -/
theorem lcGo_thread (Inv : Tau → Prop) (R : D → Prop) : ∀ (xs : List D), (∀ x ∈ xs, ∀ s, Inv s → ∃ ρ1 d s', g x ρ = some ρ1 ∧ de ρ1 s = some (d, s') ∧ R d ∧ Inv s') →
    ∀ s, Inv s → ∃ ds s', lcGo g dYes de ρ xs s = some (ds, s') ∧ ds.length = xs.length ∧ (∀ d ∈ ds, R d) ∧ Inv s'
  | [], _, s, hs => ⟨[], s, rfl, rfl, (fun _ h => by cases h), hs⟩
  | x :: xs, h, s, hs => by
    obtain ⟨ρ1, d, s1, h1, h2, h3, h4⟩ := h x List.mem_cons_self s hs
    obtain ⟨ds, s2, h5, h6, h7, h8⟩ := lcGo_thread Inv R xs (fun z hz => h z (List.mem_cons_of_mem _ hz)) s1 h4
    refine ⟨d :: ds, s2, ?_, congrArg Nat.succ h6, ?_, h8⟩
    · show ((g x ρ).bind fun ρ1 => (dYes ρ1 s).bind fun b => if b.1 = true then (de ρ1 b.2).bind fun y => (lcGo g dYes de ρ xs y.2).map fun r => (y.1 :: r.1, r.2) else lcGo g dYes de ρ xs b.2) = _
      rw [h1]
      show ((de ρ1 s).bind fun y => (lcGo g dYes de ρ xs y.2).map fun r => (y.1 :: r.1, r.2)) = _
      rw [h2]
      show (lcGo g dYes de ρ xs s1).map (fun r => (d :: r.1, r.2)) = _
      rw [h5]; rfl
    · intro z hz
      rcases List.mem_cons.mp hz with rfl | hz
      · exact h3
      · exact h7 z hz
theorem lc_thread (Inv : Tau → Prop) (R : D → Prop) {xs : List D} {s1 : Tau} (hi : di ρ s = some (xs, s1)) (hl : xs.length ≤ 1000000) (h1 : Inv s1)
    (h : ∀ x ∈ xs, ∀ s, Inv s → ∃ ρ1 d s', g x (wipeD ρ vs) = some ρ1 ∧ de ρ1 s = some (d, s') ∧ R d ∧ Inv s') :
    ∃ ds s', dLc di g dYes de vs ρ s = some (.lst ds, s') ∧ ds.length = xs.length ∧ (∀ d ∈ ds, R d) ∧ Inv s' := by
  obtain ⟨ds, s', h2, h3, h4, h5⟩ := lcGo_thread Inv R xs h s1 h1
  refine ⟨ds, s', ?_, h3, h4, h5⟩
  unfold dLc
  rw [hi]
  show (if xs.length ≤ 1000000 then (lcGo g dYes de (wipeD ρ vs) xs s1).map fun r => (D.lst r.1, r.2) else none) = _
  rw [if_pos hl, h2]; rfl
/-- a loop that goes on -/
theorem loop_nx {b : Ds} (Inv : Tau → Prop) (J : List Sl → Prop) : ∀ (xs : List D), (∀ x ∈ xs, ∀ ρ s, J ρ → Inv s → ∃ ρ1 ρ2 s', g x ρ = some ρ1 ∧ b ρ1 s = some (.nx ρ2, s') ∧ J ρ2 ∧ Inv s') →
    ∀ ρ s, J ρ → Inv s → ∃ ρ2 s', dLoop g b xs ρ s = some (.nx ρ2, s') ∧ J ρ2 ∧ Inv s'
  | [], _, ρ, s, hj, hs => ⟨ρ, s, rfl, hj, hs⟩
  | x :: xs, h, ρ, s, hj, hs => by
    obtain ⟨ρ1, ρ2, s1, h1, h2, h3, h4⟩ := h x List.mem_cons_self ρ s hj hs
    obtain ⟨ρ3, s2, h5, h6, h7⟩ := loop_nx Inv J xs (fun z hz => h z (List.mem_cons_of_mem _ hz)) ρ2 s1 h3 h4
    refine ⟨ρ3, s2, ?_, h6, h7⟩
    show ((g x ρ).bind fun ρ1 => (b ρ1 s).bind fun p => match p.1 with
      | .nx ρ2 => dLoop g b xs ρ2 p.2
      | .ct ρ2 => dLoop g b xs ρ2 p.2
      | .bk ρ2 => some (.nx ρ2, p.2)
      | .rt d o => some (.rt d o, p.2)) = _
    rw [h1]
    show ((b ρ1 s).bind fun p => match p.1 with
      | .nx ρ2 => dLoop g b xs ρ2 p.2
      | .ct ρ2 => dLoop g b xs ρ2 p.2
      | .bk ρ2 => some (.nx ρ2, p.2)
      | .rt d o => some (.rt d o, p.2)) = _
    rw [h2]
    exact h5
/-- a loop, known by what it has passed -/
theorem loop_pre {α : Type} {b : Ds} (enc : α → D) (J : List α → List Sl → Tau → Prop) (all : List α) (h : ∀ (pre : List α) (y : α) (post : List α), all = pre ++ y :: post → ∀ ρ s, J pre ρ s → ∃ ρ1 ρ2 s', g (enc y) ρ = some ρ1 ∧ b ρ1 s = some (.nx ρ2, s') ∧ J (pre ++ [y]) ρ2 s') :
    ∀ (ys pre : List α), all = pre ++ ys → ∀ ρ s, J pre ρ s → ∃ ρ2 s', dLoop g b (ys.map enc) ρ s = some (.nx ρ2, s') ∧ J all ρ2 s'
  | [], pre, e, ρ, s, hj => ⟨ρ, s, rfl, by rw [e, List.append_nil]; exact hj⟩
  | y :: ys, pre, e, ρ, s, hj => by
    obtain ⟨ρ1, ρ2, s1, h1, h2, h3⟩ := h pre y ys e ρ s hj
    obtain ⟨ρ3, s2, h5, h6⟩ := loop_pre enc J all h ys (pre ++ [y]) (by rw [e, List.append_assoc]; rfl) ρ2 s1 h3
    refine ⟨ρ3, s2, ?_, h6⟩
    show ((g (enc y) ρ).bind fun ρ1 => (b ρ1 s).bind fun p => match p.1 with
      | .nx ρ2 => dLoop g b (ys.map enc) ρ2 p.2
      | .ct ρ2 => dLoop g b (ys.map enc) ρ2 p.2
      | .bk ρ2 => some (.nx ρ2, p.2)
      | .rt d o => some (.rt d o, p.2)) = _
    rw [h1]
    show ((b ρ1 s).bind fun p => match p.1 with
      | .nx ρ2 => dLoop g b (ys.map enc) ρ2 p.2
      | .ct ρ2 => dLoop g b (ys.map enc) ρ2 p.2
      | .bk ρ2 => some (.nx ρ2, p.2)
      | .rt d o => some (.rt d o, p.2)) = _
    rw [h2]
    exact h5
theorem for_pre {α : Type} {it : Da} {b : Ds} {s1 : Tau} (enc : α → D) (J : List α → List Sl → Tau → Prop) (all : List α) (hi : it ρ s = some (all.map enc, s1)) (hj : J [] ρ s1)
    (h : ∀ (pre : List α) (y : α) (post : List α), all = pre ++ y :: post → ∀ ρ s, J pre ρ s → ∃ ρ1 ρ2 s', g (enc y) ρ = some ρ1 ∧ b ρ1 s = some (.nx ρ2, s') ∧ J (pre ++ [y]) ρ2 s') : ∃ ρ2 s', dFor it g b ρ s = some (.nx ρ2, s') ∧ J all ρ2 s' := by
  obtain ⟨ρ2, s', h1, h2⟩ := loop_pre enc J all h all [] rfl ρ s1 hj
  refine ⟨ρ2, s', ?_, h2⟩
  unfold dFor
  rw [hi]; exact h1
theorem for_nx {it : Da} {b : Ds} {xs : List D} {s1 : Tau} (Inv : Tau → Prop) (J : List Sl → Prop) (hi : it ρ s = some (xs, s1)) (hj : J ρ) (hs : Inv s1)
    (h : ∀ x ∈ xs, ∀ ρ s, J ρ → Inv s → ∃ ρ1 ρ2 s', g x ρ = some ρ1 ∧ b ρ1 s = some (.nx ρ2, s') ∧ J ρ2 ∧ Inv s') : ∃ ρ2 s', dFor it g b ρ s = some (.nx ρ2, s') ∧ J ρ2 ∧ Inv s' := by
  obtain ⟨ρ2, s', h1, h2, h3⟩ := loop_nx Inv J xs h ρ s1 hj hs
  refine ⟨ρ2, s', ?_, h2, h3⟩
  unfold dFor
  rw [hi]; exact h1
end
theorem rngL_zero (n : Nat) : rngL 0 n = (List.range n).map fun i => D.int (i : Nat) := by
  unfold rngL
  refine List.map_congr_left fun i _ => ?_
  rw [Int.zero_add]
theorem rng1_of {ax : Da} {ρ : List Sl} {s s1 : Tau} {n : Nat} (h : ax ρ s = some ([.int (n : Nat)], s1)) (hn : n ≤ 1000000) : dRng1 ax ρ s = some ((List.range n).map (fun i : Nat => D.int i), s1) := by
  unfold dRng1
  rw [h]
  show (if decide (-1000000 ≤ (n : Int) ∧ (n : Int) ≤ 1000000) = true then some (rngL 0 (n : Int).toNat, s1) else none) = _
  rw [if_pos (decide_eq_true (by omega)), Int.toNat_natCast, rngL_zero]
theorem rng2_of {ax : Da} {ρ : List Sl} {s s1 : Tau} {m n : Nat} (h : ax ρ s = some ([.int (m : Nat), .int (n : Nat)], s1)) (hm : m ≤ 1000000) (hn : n ≤ 1000000) : dRng2 ax ρ s = some ((List.range (n - m)).map (fun i : Nat => D.int (m + i : Nat)), s1) := by
  unfold dRng2
  rw [h]
  show (if decide (-1000000 ≤ (m : Int) ∧ (m : Int) ≤ 1000000 ∧ -1000000 ≤ (n : Int) ∧ (n : Int) ≤ 1000000) = true then some (rngL m ((n : Int) - m).toNat, s1) else none) = _
  rw [if_pos (decide_eq_true (by omega)), show ((n : Int) - m).toNat = n - m by omega]
  rfl
theorem enumL_zip (enc : α → D) : ∀ (bs : List α) (k : Nat), enumL k (bs.map enc) = (bs.zipIdx k).map fun z => D.ktp [.int (z.2 : Nat), enc z.1]
  | [], _ => rfl
  | b :: bs, k => by
    show D.ktp [.int (k : Nat), enc b] :: enumL (k + 1) (bs.map enc) = _
    rw [enumL_zip enc bs (k + 1)]; rfl
/-! equal data: alike -/
theorem convL_map {α : Type} (enc : α → D) (cv : α → PyData) (h : ∀ x, (enc x).conv = some (cv x)) : ∀ xs : List α, convL (xs.map enc) = some (xs.map cv)
  | [] => rfl
  | x :: xs => by
    show ((enc x).conv.bind fun y => (convL (xs.map enc)).map fun ys => y :: ys) = _
    rw [h x, convL_map enc cv h xs]; rfl
theorem convL_len : ∀ {xs : List D} {ps : List PyData}, convL xs = some ps → xs.length = ps.length
  | [], _, h => by cases h; rfl
  | x :: xs, ps, h => by
    obtain ⟨p, h1, h⟩ := bind_some_of h
    obtain ⟨qs, h2, rfl⟩ := map_some_of h
    exact congrArg Nat.succ (convL_len h2)
theorem convL_get : ∀ {xs : List D} {ps : List PyData} {i : Nat} {p : PyData}, convL xs = some ps → ps[i]? = some p → ∃ x, xs[i]? = some x ∧ x.conv = some p
  | [], _, i, p, h, e => by cases h; cases e
  | x :: xs, ps, i, p, h, e => by
    obtain ⟨q, h1, h⟩ := bind_some_of h
    obtain ⟨qs, h2, rfl⟩ := map_some_of h
    cases i with
    | zero => cases e; exact ⟨x, rfl, h1⟩
    | succ i => exact convL_get (i := i) h2 e
theorem depthAll_get : ∀ {ps : List PyData} {i : Nat} {p : PyData}, ps[i]? = some p → p.depth ≤ PyData.depthAll ps
  | [], i, p, e => by cases e
  | q :: ps, i, p, e => by
    show p.depth ≤ max q.depth (PyData.depthAll ps)
    cases i with
    | zero => cases e; exact Nat.le_max_left _ _
    | succ i => exact Nat.le_trans (depthAll_get (i := i) e) (Nat.le_max_right _ _)
theorem canLay_get : ∀ {ps : List PyData} {i : Nat} {p : PyData}, PyData.canLayAll0 ps = true → ps[i]? = some p → p.canLay0 = true
  | [], i, p, _, e => by cases e
  | q :: ps, i, p, h, e => by
    obtain ⟨h1, h2⟩ := Bool.and_eq_true_iff.mp (show (q.canLay0 && PyData.canLayAll0 ps) = true from h)
    cases i with
    | zero => cases e; exact h1
    | succ i => exact canLay_get (i := i) h2 e
end Dl
end
section
set_option Elab.async false
set_option linter.all false
set_option maxRecDepth 100000
set_option maxHeartbeats 4000000
namespace Dl
open PySem L2 PyProof.Rows
/-! rows of voices, texts of signs -/
def vs (b : Bool) : Str := bif b then "allow" else "deny"
def cn (b : Bool) : Nat := bif b then 43 else 45
def sg (b : Bool) : Str := ⟨#[cn b]⟩
def vD (b : Bool) : D := .str (vs b)
def gD (b : Bool) : D := .str (sg b)
def tx (bs : List Bool) : Str := ⟨(bs.map cn).toArray⟩
def row (bs : List Bool) : D := .tup (bs.map vD)
theorem cn_inj : ∀ a b : Bool, (cn a = cn b) ↔ a = b := by decide
theorem vs_ok : ∀ b : Bool, PyData.strOk (vs b) = true := by decide +kernel
theorem sg_ok : ∀ b : Bool, PyData.strOk (sg b) = true := by decide +kernel
theorem vs_eq : ∀ a b : Bool, (vs a == vs b) = (a == b) := by decide
theorem sg_eq : ∀ a b : Bool, (sg a == sg b) = (a == b) := by decide
theorem tx_len (bs : List Bool) : (tx bs).length = bs.length := by
  show (bs.map cn).toArray.size = _
  rw [List.size_toArray, List.length_map]
theorem tx_list (bs : List Bool) : (tx bs).cps.toList = bs.map cn := rfl
theorem tx_one (b : Bool) : tx [b] = sg b := rfl
theorem tx_app (a b : List Bool) : tx a ++ tx b = tx (a ++ b) := by
  show (⟨(a.map cn).toArray ++ (b.map cn).toArray⟩ : Str) = ⟨((a ++ b).map cn).toArray⟩
  rw [List.map_append, List.append_toArray]
theorem tx_ch (bs : List Bool) : chL (tx bs) = bs.map gD := by
  show ((bs.map cn).map fun k => D.str ⟨#[k]⟩) = _
  rw [List.map_map]; rfl
theorem tx_cut (bs : List Bool) (lo hi : Option Int) : cutS (tx bs) lo hi = tx (cutL bs lo hi) := by
  unfold cutS cutL
  rw [tx_len, tx_list]
  show (⟨(((bs.map cn).drop _).take _).toArray⟩ : Str) = ⟨(((bs.drop _).take _).map cn).toArray⟩
  rw [List.map_take, List.map_drop]
theorem row_cut (bs : List Bool) (lo hi : Option Int) : cutL (bs.map vD) lo hi = (cutL bs lo hi).map vD := by
  unfold cutL
  rw [List.length_map, List.map_take, List.map_drop]
theorem cut_to {α : Type} (xs : List α) (i : Nat) : cutL xs none (some (i : Int)) = xs.take i := by
  unfold cutL
  rw [HT.sIx_none, HT.sIx_nat, List.drop_zero, Nat.sub_zero]
  by_cases h : i ≤ xs.length
  · rw [Nat.min_eq_left h]
  · rw [Nat.min_eq_right (by omega), List.take_of_length_le (Nat.le_refl _), List.take_of_length_le (by omega)]
theorem cut_from {α : Type} (xs : List α) (i : Nat) : cutL xs (some (i : Int)) none = xs.drop i := by
  unfold cutL
  rw [HT.sIx_none, HT.sIx_nat]
  by_cases h : i ≤ xs.length
  · rw [Nat.min_eq_left h]
    exact List.take_of_length_le (by rw [List.length_drop]; exact Nat.le_refl _)
  · rw [Nat.min_eq_right (by omega), Nat.sub_self, List.drop_eq_nil_of_le (Nat.le_refl _), List.drop_eq_nil_of_le (by omega)]; rfl
theorem ix_tx {bs : List Bool} (hl : bs.length ≤ 1000000) {i : Int} {b : Bool} (h : atI bs i = some b) : ixD (.str (tx bs)) (.int i) = some (gD b) := by
  show (if (tx bs).length ≤ 1000000 then (atI (tx bs).cps.toList i).map fun c => D.str ⟨#[c]⟩ else none) = _
  rw [if_pos (by rw [tx_len]; exact hl), tx_list, atI_map, h]; rfl
theorem ix_row {bs : List Bool} {i : Int} {b : Bool} (h : atI bs i = some b) : ixD (row bs) (.int i) = some (vD b) := by
  show ((some (bs.map vD)).bind fun xs => atI xs i) = _
  show atI (bs.map vD) i = _
  rw [atI_map, h]; rfl
theorem at_nat {α : Type} (xs : List α) (i : Nat) : atI xs (i : Int) = xs[i]? := by
  unfold atI ixN
  rw [if_pos (by omega)]
  by_cases z : (i : Int) < xs.length
  · rw [if_pos z]; rfl
  · rw [if_neg z, List.getElem?_eq_none (by omega)]; rfl
theorem at_last {α : Type} (xs : List α) (h : xs ≠ []) : atI xs (-1) = xs.getLast? := by
  have hp : 0 < xs.length := List.length_pos_iff.mpr h
  unfold atI ixN
  rw [if_neg (by decide), if_pos (by omega), show (-1 + (xs.length : Int)).toNat = xs.length - 1 by omega, List.getLast?_eq_getElem?]; rfl
theorem len_tx {bs : List Bool} (hl : bs.length ≤ 1000000) : lenD [.str (tx bs)] = some (.int bs.length) := by
  show (if (tx bs).length ≤ 1000000 then some (D.int (tx bs).length) else none) = _
  rw [if_pos (by rw [tx_len]; exact hl), tx_len]
theorem len_row (bs : List Bool) : lenD [row bs] = some (.int bs.length) := by
  show some (D.int (bs.map vD).length) = _
  rw [List.length_map]
theorem sl_tx {bs : List Bool} (hl : bs.length ≤ 1000000) (lo hi : Option Int) : slD (.str (tx bs)) lo hi = some (.str (tx (cutL bs lo hi))) := by
  show (if (tx bs).length ≤ 1000000 then some (D.str (cutS (tx bs) lo hi)) else none) = _
  rw [if_pos (by rw [tx_len]; exact hl), tx_cut]
theorem sl_row (bs : List Bool) (lo hi : Option Int) : slD (row bs) lo hi = some (.ktp ((cutL bs lo hi).map vD)) := by
  show some (D.ktp (cutL (bs.map vD) lo hi)) = _
  rw [row_cut]
theorem add_tx {a b : List Bool} (hl : a.length + b.length ≤ 1000000) : addD (.str (tx a)) (.str (tx b)) = some (.str (tx (a ++ b))) := by
  show (if (tx a).length + (tx b).length ≤ 1000000 then some (D.str (tx a ++ tx b)) else none) = _
  rw [if_pos (by rw [tx_len, tx_len]; exact hl), tx_app]
theorem cnt_tx (c : Bool) : ∀ bs : List Bool, cnt (cn c) (bs.map cn) = (bs.count c : Nat)
  | [] => rfl
  | b :: bs => by
    rw [List.map_cons, cnt_cons, cnt_tx c bs, List.count_cons]
    cases b <;> cases c <;> simp [cn] <;> omega
theorem count_tx (bs : List Bool) (c : Bool) : countSD (tx bs) [.str (sg c)] = some (.int (bs.count c : Nat)) := by
  show some (D.int (Txt.count (tx bs) ⟨#[cn c]⟩)) = _
  rw [count_cnt, tx_list, cnt_tx]
theorem strs_map {α : Type} (f : α → Str) : ∀ xs : List α, strsOf (xs.map fun x => D.str (f x)) = some (xs.map f)
  | [] => rfl
  | x :: xs => by
    show (strsOf (xs.map fun x => D.str (f x))).map (fun bs => f x :: bs) = _
    rw [strs_map f xs]; rfl
theorem vs_inj : ∀ a b : Bool, vs a = vs b → a = b := by decide
theorem count_map_inj {α β : Type} [BEq α] [LawfulBEq α] [BEq β] [LawfulBEq β] {f : α → β} (h : ∀ a b, f a = f b → a = b) (c : α) : ∀ xs : List α, (xs.map f).count (f c) = xs.count c
  | [] => rfl
  | x :: xs => by
    rw [List.map_cons, List.count_cons, List.count_cons, count_map_inj h c xs]
    by_cases e : x = c
    · subst e; simp
    · rw [beq_eq_false_iff_ne.mpr e, beq_eq_false_iff_ne.mpr fun z => e (h _ _ z)]
theorem count_row (bs : List Bool) (c : Bool) : countD (row bs) (vD c) = some (.int (bs.count c : Nat)) := by
  show (strsOf (bs.map fun b => D.str (vs b))).map (fun ys => D.int ((ys.count (vs c) : Nat) : Int)) = _
  rw [strs_map]
  show some (D.int (((bs.map vs).count (vs c) : Nat) : Int)) = _
  rw [count_map_inj vs_inj]
theorem depth_strs (xs : List Str) : PyData.depthAll (xs.map PyData.str) = 0 := by
  induction xs with
  | nil => rfl
  | cons x xs ih =>
    show max 0 (PyData.depthAll (xs.map PyData.str)) = 0
    rw [ih]; rfl
theorem lay_strs : ∀ {xs : List Str}, (∀ x ∈ xs, PyData.strOk x = true) → PyData.canLayAll0 (xs.map PyData.str) = true
  | [], _ => rfl
  | x :: xs, h => by
    show (PyData.strOk x && PyData.canLayAll0 (xs.map PyData.str)) = true
    rw [h x List.mem_cons_self, lay_strs fun z hz => h z (List.mem_cons_of_mem _ hz)]; rfl
theorem shaped_strsL {xs : List Str} (h : ∀ x ∈ xs, PyData.strOk x = true) : SeqAt.shaped (.list (xs.map PyData.str)) = true := by
  unfold SeqAt.shaped
  rw [Bool.and_eq_true]
  refine ⟨lay_strs h, decide_eq_true ?_⟩
  show PyData.depthAll (xs.map PyData.str) + 1 ≤ 64
  rw [depth_strs]; decide
theorem shaped_strsT {xs : List Str} (h : ∀ x ∈ xs, PyData.strOk x = true) : SeqAt.shaped (.tuple (xs.map PyData.str)) = true := by
  unfold SeqAt.shaped
  rw [Bool.and_eq_true]
  refine ⟨lay_strs h, decide_eq_true ?_⟩
  show PyData.depthAll (xs.map PyData.str) + 1 ≤ 64
  rw [depth_strs]; decide
theorem depth_ints : ∀ xs : List Int, PyData.depthAll (xs.map PyData.int) = 0
  | [] => rfl
  | x :: xs => by
    show max 0 (PyData.depthAll (xs.map PyData.int)) = 0
    rw [depth_ints xs]; rfl
theorem lay_ints : ∀ xs : List Int, PyData.canLayAll0 (xs.map PyData.int) = true
  | [] => rfl
  | x :: xs => by
    show (true && PyData.canLayAll0 (xs.map PyData.int)) = true
    rw [lay_ints xs]; rfl
theorem shaped_intsL (xs : List Int) : SeqAt.shaped (.list (xs.map PyData.int)) = true := by
  unfold SeqAt.shaped
  rw [Bool.and_eq_true]
  refine ⟨lay_ints xs, decide_eq_true ?_⟩
  show PyData.depthAll (xs.map PyData.int) + 1 ≤ 64
  rw [depth_ints]; decide
theorem eq_ints_nil (xs : List Int) : eqD (.lst (xs.map D.int)) (.lst []) = some (.bl (decide (xs.length = 0))) := by
  unfold eqD
  rw [eqB_of (x := .list (xs.map PyData.int)) (y := .list []) (by show (convL (xs.map D.int)).map PyData.list = _; rw [convL_map D.int PyData.int fun _ => rfl]; rfl) rfl (shaped_intsL xs) rfl]
  cases xs <;> rfl
theorem vs_all (bs : List Bool) : ∀ x ∈ bs.map vs, PyData.strOk x = true := fun x h => by
  obtain ⟨b, _, rfl⟩ := List.mem_map.mp h
  exact vs_ok b
theorem any_str (y : Str) (xs : List Str) : ((xs.map PyData.str).any fun z => PyData.eqv z (.str y)) = xs.contains y := by
  induction xs with
  | nil => rfl
  | cons x xs ih =>
    rw [List.map_cons, List.any_cons, ih, List.contains_cons]
    show (x == y || xs.contains y) = _
    rw [show (x == y) = (y == x) from BEq.comm]
theorem inB_strs {d : D} {ds : List D} {xs : List Str} {y : Str} (hd : d.its = some ds) (he : ds = xs.map D.str) (hx : ∀ x ∈ xs, PyData.strOk x = true) (hy : PyData.strOk y = true) : inB (.str y) d = some (xs.contains y) := by
  unfold inB
  subst he
  show (d.its.bind fun es => (convL es).bind fun ys => if (SeqAt.shaped (.str y) && SeqAt.shaped (.list ys) && SeqAt.shaped (.tuple ys)) = true then some (ys.any fun z => PyData.eqv z (.str y)) else none) = _
  rw [hd]
  show ((convL (xs.map D.str)).bind fun ys => if (SeqAt.shaped (.str y) && SeqAt.shaped (.list ys) && SeqAt.shaped (.tuple ys)) = true then some (ys.any fun z => PyData.eqv z (.str y)) else none) = _
  rw [convL_map D.str PyData.str fun _ => rfl]
  show (if (SeqAt.shaped (.str y) && SeqAt.shaped (.list (xs.map PyData.str)) && SeqAt.shaped (.tuple (xs.map PyData.str))) = true then some ((xs.map PyData.str).any fun z => PyData.eqv z (.str y)) else none) = _
  rw [if_pos (by rw [shaped_str hy, shaped_strsL hx, shaped_strsT hx]; rfl), any_str]
theorem contains_map_inj {α β : Type} [BEq α] [LawfulBEq α] [BEq β] [LawfulBEq β] {f : α → β} (h : ∀ a b, f a = f b → a = b) (c : α) : ∀ xs : List α, (xs.map f).contains (f c) = xs.contains c
  | [] => rfl
  | x :: xs => by
    rw [List.map_cons, List.contains_cons, List.contains_cons, contains_map_inj h c xs]
    by_cases e : c = x
    · subst e; simp
    · rw [beq_eq_false_iff_ne.mpr e, beq_eq_false_iff_ne.mpr fun z => e (h _ _ z)]
theorem in_row (bs : List Bool) (c : Bool) : inB (vD c) (row bs) = some (bs.contains c) := by
  refine (inB_strs (xs := bs.map vs) rfl (by rw [List.map_map]; rfl) (vs_all bs) (vs_ok c)).trans ?_
  rw [contains_map_inj vs_inj]
theorem eq_v (a b : Bool) : eqD (vD a) (vD b) = some (.bl (a == b)) := (eqD_str (vs_ok a) (vs_ok b)).trans (by rw [vs_eq])
theorem ne_v (a b : Bool) : neD (vD a) (vD b) = some (.bl (!(a == b))) := (neD_str (vs_ok a) (vs_ok b)).trans (by rw [vs_eq])
theorem eq_g (a b : Bool) : eqD (gD a) (gD b) = some (.bl (a == b)) := (eqD_str (sg_ok a) (sg_ok b)).trans (by rw [sg_eq])
theorem ne_g (a b : Bool) : neD (gD a) (gD b) = some (.bl (!(a == b))) := (neD_str (sg_ok a) (sg_ok b)).trans (by rw [sg_eq])
theorem join_go : ∀ (ps : List Str) (acc : Array Nat), ps.foldl (fun acc p => acc ++ (#[] : Array Nat) ++ p.cps) acc = acc ++ (ps.flatMap fun z => z.cps.toList).toArray
  | [], acc => by simp
  | p :: ps, acc => by
    rw [List.foldl_cons, join_go ps, List.flatMap_cons, Array.append_empty, Array.append_assoc]
    congr 1
    rw [← List.append_toArray]
theorem join_nil (ys : List Str) : Txt.join "" ys = ⟨(ys.flatMap fun z => z.cps.toList).toArray⟩ := by
  show (⟨(ys.drop 1).foldl (fun acc p => acc ++ (#[] : Array Nat) ++ p.cps) (ys.headD Str.empty).cps⟩ : Str) = _
  rw [join_go]
  cases ys with
  | nil => rfl
  | cons y ys =>
    show (⟨y.cps ++ (ys.flatMap fun z => z.cps.toList).toArray⟩ : Str) = _
    simp [List.flatMap_cons]
theorem join_g {bs : List Bool} (hl : bs.length ≤ 1000000) : joinSD "" [.lst (bs.map gD)] = some (.str (tx bs)) := by
  show ((strsOf (bs.map fun b => D.str (sg b))).bind fun ys => if (ys.map fun z => z.length).sum + ys.length * Str.length "" ≤ 1000000 then some (D.str (Txt.join "" ys)) else none) = _
  rw [strs_map]
  have e1 : ((bs.map sg).map fun z => z.length).sum = bs.length := by
    clear hl
    induction bs with
    | nil => rfl
    | cons b bs ih =>
      rw [List.map_cons, List.map_cons, List.sum_cons, ih, List.length_cons]
      show 1 + bs.length = _
      omega
  show (if ((bs.map sg).map fun z => z.length).sum + (bs.map sg).length * 0 ≤ 1000000 then some (D.str (Txt.join "" (bs.map sg))) else none) = _
  rw [e1, if_pos (by omega), join_nil]
  have e2 : ((bs.map sg).flatMap fun z => z.cps.toList) = bs.map cn := by
    clear hl e1
    induction bs with
    | nil => rfl
    | cons b bs ih => rw [List.map_cons, List.flatMap_cons, ih]; rfl
  rw [e2]; rfl
/-- one voice turned -/
def fl (bs : List Bool) (i : Nat) : List Bool := bs.set i (!(bs[i]?.getD true))
theorem fl_len (bs : List Bool) (i : Nat) : (fl bs i).length = bs.length := List.length_set
theorem fl_cut {bs : List Bool} {i : Nat} {b : Bool} (h : bs[i]? = some b) : bs.take i ++ ((!b) :: bs.drop (i + 1)) = fl bs i := by
  unfold fl
  rw [h]
  have hi := (List.getElem?_eq_some_iff.mp h).1
  rw [List.set_eq_take_append_cons_drop, if_pos hi]; rfl
end Dl
end
section
set_option Elab.async false
set_option linter.all false
set_option maxRecDepth 100000
set_option maxHeartbeats 4000000
namespace Dl
open PySem L2 PyProof.Rows
/-! where a row changes; the answers in plain Lean -/
/-- the changes after p -/
def jr : Bool → List Bool → List Bool
  | _, [] => []
  | p, b :: r => if b == p then jr b r else b :: jr b r
def hd (bs : List Bool) : Bool := bs.head?.getD true
def ls (bs : List Bool) : Bool := bs.getLast?.getD true
def jn : List Bool → List Bool
  | [] => []
  | b :: r => b :: jr b r
def chN : List Bool → Nat
  | [] => 0
  | b :: r => (jr b r).length
/-- changes come by turns -/
def alt : Bool → Nat → List Bool
  | _, 0 => []
  | p, n + 1 => (!p) :: alt (!p) n
theorem jr_alt : ∀ (r : List Bool) (p : Bool), jr p r = alt p (jr p r).length
  | [], _ => rfl
  | b :: r, p => by
    unfold jr
    by_cases e : b = p
    · subst e
      rw [if_pos (beq_self_eq_true b)]
      exact jr_alt r b
    · rw [if_neg (by simpa using e)]
      have eb : b = !p := by cases b <;> cases p <;> first | rfl | exact absurd rfl e
      rw [List.length_cons]
      show _ = (!p) :: alt (!p) _
      rw [← eb, ← jr_alt r b]
def isl (bs : List Bool) : Bool := (hd bs && decide (chN bs = 0)) || (!hd bs && decide (chN bs = 2))
theorem isl_jn : ∀ bs : List Bool, bs ≠ [] → (jn bs == [true] || jn bs == [false, true, false]) = isl bs
  | [], h => absurd rfl h
  | b :: r, _ => by
    show (b :: jr b r == [true] || b :: jr b r == [false, true, false]) = ((b && decide ((jr b r).length = 0)) || (!b && decide ((jr b r).length = 2)))
    rw [jr_alt r b]
    rw [← jr_alt r b]
    generalize hn : (jr b r).length = n
    have e : jr b r = alt b n := by rw [← hn]; exact jr_alt r b
    rw [e]
    match b, n with
    | true, 0 => rfl
    | false, 0 => rfl
    | true, 1 => rfl
    | false, 1 => rfl
    | true, 2 => rfl
    | false, 2 => rfl
    | true, n + 3 => simp [alt]
    | false, n + 3 => simp [alt]
theorem jn_len : ∀ bs : List Bool, (jn bs).length ≤ bs.length
  | [] => Nat.le_refl _
  | b :: r => by
    have h : ∀ (r : List Bool) (p : Bool), (jr p r).length ≤ r.length := fun r => by
      induction r with
      | nil => intro p; exact Nat.le_refl _
      | cons c r ih =>
        intro p
        unfold jr
        split
        · exact Nat.le_succ_of_le (ih c)
        · exact Nat.succ_le_succ (ih c)
    exact Nat.succ_le_succ (h r b)
/-- by places, over the whole row -/
theorem jr_zip (bs : List Bool) : ∀ (r pre : List Bool) (p : Bool), bs = pre ++ p :: r → ((r.zipIdx (pre.length + 1)).filter fun z => !(z.1 == (bs[z.2 - 1]?.getD true))).map (fun z => z.1) = jr p r
  | [], _, _, _ => rfl
  | b :: r, pre, p, h => by
    have e0 : bs[pre.length]? = some p := by rw [h]; simp
    have ih := jr_zip bs r (pre ++ [p]) b (by rw [h]; simp)
    rw [List.length_append] at ih
    rw [List.zipIdx_cons]
    unfold jr
    have e1 : (bs[pre.length + 1 - 1]?.getD true) = p := by rw [Nat.add_sub_cancel, e0]; rfl
    by_cases e : b = p
    · rw [if_pos (by rw [e]; exact beq_self_eq_true p), List.filter_cons_of_neg (by show ¬(!(b == (bs[pre.length + 1 - 1]?.getD true))) = true; rw [e1, e]; simp)]
      exact ih
    · rw [if_neg (by simpa using e), List.filter_cons_of_pos (by show (!(b == (bs[pre.length + 1 - 1]?.getD true))) = true; rw [e1]; simpa using e), List.map_cons]
      rw [show pre.length + 1 + 1 = pre.length + [p].length + 1 from rfl, ih]
theorem jn_zip : ∀ bs : List Bool, ((bs.zipIdx).filter fun z => decide (z.2 = 0) || !(z.1 == (bs[z.2 - 1]?.getD true))).map (fun z => z.1) = jn bs
  | [] => rfl
  | b :: r => by
    rw [List.zipIdx_cons, List.filter_cons_of_pos rfl, List.map_cons]
    have h := jr_zip (b :: r) r [] b rfl
    show b :: _ = b :: jr b r
    rw [← h]
    congr 2
    refine List.filter_congr fun z hz => ?_
    have := (List.mem_zipIdx hz).1
    rw [show decide (z.2 = 0) = false from decide_eq_false (by omega)]; rfl
theorem chN_ix : ∀ bs : List Bool, ((List.range (bs.length - 1)).filter fun i => !((bs[1 + i]?.getD true) == (bs[i]?.getD true))).length = chN bs
  | [] => rfl
  | b :: r => by
    have h := jr_zip (b :: r) r [] b rfl
    show _ = (jr b r).length
    rw [← h, List.length_map]
    show _ = ((r.zipIdx 1).filter _).length
    have e : (r.zipIdx 1) = (List.range r.length).map fun i => ((b :: r)[1 + i]?.getD true, 1 + i) := by
      apply List.ext_getElem?
      intro i
      rw [List.getElem?_zipIdx, List.getElem?_map]
      by_cases hi : i < r.length
      · rw [List.getElem?_range hi, List.getElem?_eq_getElem hi]
        show some (r[i], 1 + i) = some ((b :: r)[1 + i]?.getD true, 1 + i)
        rw [Nat.add_comm 1 i, List.getElem?_cons_succ, List.getElem?_eq_getElem hi]; rfl
      · rw [List.getElem?_eq_none (by omega), List.getElem?_eq_none (by rw [List.length_range]; omega)]; rfl
    rw [e, List.filter_map, List.length_map]
    show ((List.range r.length).filter _).length = _
    congr 1
    refine List.filter_congr fun i _ => ?_
    show _ = !(((b :: r)[1 + i]?.getD true) == ((b :: r)[1 + i - 1]?.getD true))
    rw [Nat.add_sub_cancel_left]
/-- most -/
def mo (bs : List Bool) (t : Bool) : Bool := if bs.count true = bs.count false then t else decide (bs.count false < bs.count true)
/-- the i-th way's answer -/
def an : Nat → List Bool → Bool
  | 0, bs => bs.contains true
  | 1, _ => true
  | 2, _ => false
  | 3, bs => hd bs && ls bs
  | 4, bs => !bs.contains false
  | 5, bs => hd bs
  | 6, bs => isl bs
  | 7, bs => ls bs
  | 8, bs => mo bs true
  | 9, bs => mo bs false
  | 10, bs => mo bs (hd bs)
  | 11, bs => mo bs (ls bs)
  | _, bs => decide (bs.count false % 2 = 0)
def wys : List Str := ["allow over", "always allow", "always deny", "both ends", "deny over", "first", "island", "last", "most or allow", "most or deny", "most or first", "most or last", "odd"]
def wy (i : Nat) : Str := wys.getD i "odd"
theorem ne_int {c d : Nat} (h : c ≠ d) : neD (.int c) (.int d) = some (.bl true) := by
  rw [neD_int, beq_eq_false_iff_ne.mpr (show (c : Int) ≠ d by omega)]; rfl
theorem ne_int_self (c : Int) : neD (.int c) (.int c) = some (.bl false) := by
  rw [neD_int, beq_self_eq_true]; rfl
theorem eq_int_self (c : Int) : eqD (.int c) (.int c) = some (.bl true) := by
  rw [eqD_int, beq_self_eq_true]
theorem eq_int_ne {c d : Int} (h : c ≠ d) : eqD (.int c) (.int d) = some (.bl false) := by
  rw [eqD_int, beq_eq_false_iff_ne.mpr h]
theorem gt_nat (c d : Nat) : gtD (.int c) (.int d) = some (.bl (decide (d < c))) := by
  show some (D.bl (decide ((d : Int) < c))) = _
  rw [show decide ((d : Int) < c) = decide (d < c) from decide_eq_decide.mpr (by omega)]
theorem mo_ne {bs : List Bool} (h : bs.count true ≠ bs.count false) (t : Bool) : mo bs t = decide (bs.count false < bs.count true) := if_neg h
theorem mo_eq {bs : List Bool} (h : bs.count true = bs.count false) (t : Bool) : mo bs t = t := if_pos h
theorem at_hd {bs : List Bool} (h : bs ≠ []) : atI bs 0 = some (hd bs) := by
  cases bs with
  | nil => exact absurd rfl h
  | cons b r => exact at_nat (b :: r) 0
theorem at_ls {bs : List Bool} (h : bs ≠ []) : atI bs (-1) = some (ls bs) := by
  rw [at_last bs h]
  unfold ls
  rw [List.getLast?_eq_some_getLast h]; rfl
theorem at_ls2 {bs : List Bool} (h : bs ≠ []) : atI bs ((bs.length : Int) - 1) = some (ls bs) := by
  have hp : 0 < bs.length := List.length_pos_iff.mpr h
  rw [show ((bs.length : Int) - 1) = ((bs.length - 1 : Nat) : Int) by omega, at_nat, ← List.getLast?_eq_getElem?]
  unfold ls
  rw [List.getLast?_eq_some_getLast h]; rfl
/-- all rows of a length -/
def rb : Nat → List (List Bool)
  | 0 => [[]]
  | n + 1 => (rb n).flatMap fun t => [t ++ [true], t ++ [false]]
theorem mem_rb : ∀ (n : Nat) (bs : List Bool), bs ∈ rb n ↔ bs.length = n
  | 0, bs => by
    show bs ∈ [[]] ↔ _
    rw [List.mem_singleton, List.length_eq_zero_iff]
  | n + 1, bs => by
    show bs ∈ (rb n).flatMap _ ↔ _
    rw [List.mem_flatMap]
    constructor
    · rintro ⟨t, ht, h⟩
      have hl := (mem_rb n t).mp ht
      rcases List.mem_cons.mp h with rfl | h
      · rw [List.length_append, hl]; rfl
      · rw [List.mem_singleton] at h
        rw [h, List.length_append, hl]; rfl
    · intro hl
      have h0 : bs ≠ [] := fun e => by rw [e] at hl; cases hl
      refine ⟨bs.dropLast, (mem_rb n _).mpr (by rw [List.length_dropLast, hl]; rfl), ?_⟩
      have e := List.dropLast_concat_getLast h0
      cases q : bs.getLast h0 with
      | true => rw [q] at e; rw [e]; exact List.mem_cons_self
      | false => rw [q] at e; rw [e]; exact List.mem_cons_of_mem _ List.mem_cons_self
theorem rb_len : ∀ n : Nat, (rb n).length = 2 ^ n
  | 0 => rfl
  | n + 1 => by
    have key : ∀ l : List (List Bool), (l.flatMap fun t => [t ++ [true], t ++ [false]]).length = 2 * l.length := fun l => by
      induction l with
      | nil => rfl
      | cons x l ih =>
        rw [List.flatMap_cons, List.length_append, ih, List.length_cons (as := l)]
        show 2 + 2 * l.length = 2 * (l.length + 1)
        omega
    show ((rb n).flatMap _).length = _
    rw [key, rb_len n, Nat.pow_succ]; omega
theorem cn_list_inj : ∀ a b : List Bool, a.map cn = b.map cn → a = b
  | [], [], _ => rfl
  | [], _ :: _, h => by cases h
  | _ :: _, [], h => by cases h
  | x :: a, y :: b, h => by
    rw [List.map_cons, List.map_cons] at h
    injection h with h1 h2
    rw [(cn_inj x y).mp h1, cn_list_inj a b h2]
theorem tx_inj {a b : List Bool} (h : tx a = tx b) : a = b := by
  have e : (tx a).cps.toList = (tx b).cps.toList := by rw [h]
  exact cn_list_inj a b e
theorem look_map {α : Type} {key : α → Str} {val : α → D} (hk : ∀ x y, key x = key y → x = y) {y : α} : ∀ {ys : List α}, y ∈ ys → lookD (ys.map fun z => (key z, val z)) (key y) = some (val y)
  | x :: ys, h => by
    unfold lookD
    rw [List.map_cons, List.find?_cons]
    by_cases e : key x = key y
    · rw [decide_eq_true e]
      rw [hk x y e]; rfl
    · rw [decide_eq_false e]
      rcases List.mem_cons.mp h with rfl | h
      · exact absurd rfl e
      · exact look_map hk h
theorem put_new {es : List (Str × D)} {k : Str} {v : D} (h : ∀ z ∈ es, z.1 ≠ k) : putD es k v = es ++ [(k, v)] := by
  unfold putD
  rw [if_neg]
  intro q
  obtain ⟨z, hz, e⟩ := List.any_eq_true.mp q
  exact h z hz (of_decide_eq_true e)
theorem rb_nodup : ∀ n : Nat, n < 9 → (rb n).Nodup := by decide +kernel
end Dl
end
section
set_option Elab.async false
set_option linter.all false
set_option maxRecDepth 100000
set_option maxHeartbeats 4000000
namespace Dl
open PySem L2 PyProof.Rows
/-! owned things, plain -/
section
variable {ρ : List Sl} {s s1 s2 : Tau} {x y z : D} {da db : Dn} {ax ar : Da} {b : Bool} {bt : Dt}
theorem own_of {i : Nat} (h1 : da ρ s = some (x, s1)) : dOwn da i ρ s = some (.nx (ρ.set i (.ow x)), s1) := by
  unfold dOwn
  rw [h1]; rfl
theorem frz_of {i : Nat} {b : Ds} {r : Option (Rs × Tau)} (h1 : ρ[i]? = some (.ow x)) (h2 : b (ρ.set i (.im x)) s = r) : dFrz i b ρ s = r := by
  unfold dFrz
  rw [h1]; exact h2
theorem sN_ {a b : Ds} {ρ1 : List Sl} {r : Option (Rs × Tau)} (h : a ρ s = some (.nx ρ1, s1)) (h2 : b ρ1 s1 = r) : dSeq a b ρ s = r := seq_nx h h2
end
end Dl
end
section
set_option Elab.async false
set_option linter.all false
set_option maxRecDepth 100000
set_option maxHeartbeats 4000000
namespace Dl
open PySem L2 PyProof.Rows
/-! tables of answers, told -/
def tD (bs : List Bool) : D := .str (tx bs)
/-- a told dict of signs: T what it tells, K of which rows -/
def TabS (es : List (Str × D)) (T K : List Bool → Bool) : Prop := ∀ bs, lookD es (tx bs) = if K bs = true then some (gD (T bs)) else none
def md (bs : List Bool) : Bool := bs.contains true && bs.contains false
def sh (bs : List Bool) (i : Nat) : Bool := bs[i]?.getD true
def xc (bs : List Bool) (i : Nat) : List Bool := bs.take i ++ (sh bs (i + 1) :: sh bs i :: bs.drop (i + 2))
def ins (bs : List Bool) (i : Nat) (b : Bool) : List Bool := bs.take i ++ b :: bs.drop i
def gt (T K : List Bool → Bool) (k : List Bool) (h : Bool) : Bool := if K k = true then T k else h
/-- the p-th promise is broken at a row -/
def torn (T K : List Bool → Bool) : Nat → List Bool → Bool
  | 0, bs => !md bs && !(T bs == hd bs)
  | 1, bs => T (bs.map not) == T bs
  | 2, bs => T bs && (List.range bs.length).any fun i => !sh bs i && !T (fl bs i)
  | 6, bs => !decide (bs.count true = bs.count false) && !(T bs == decide (bs.count false < bs.count true))
  | 7, bs => (List.range (bs.length - 1)).any fun i => !(T (xc bs i) == T bs)
  | 8, bs => (List.range (bs.length - 1)).any fun i => !(T [T (bs.take (1 + i)), T (bs.drop (1 + i))] == T bs)
  | 9, bs => (List.range bs.length).any fun i => !(gt T K (ins bs i (sh bs i)) (T bs) == T bs)
  | _, bs => (List.range (bs.length + 1)).any fun i => !(gt T K (ins bs i (T bs)) (T bs) == T bs)
def prs : List Str := ["agreed", "even", "growing", "heard", "kept", "mixed", "most", "order", "parts", "repeat"]
def pr (i : Nat) : Str := prs.getD i "repeat"
/-- what must be told for the p-th promise at a row -/
def Dmn (T K : List Bool → Bool) : Nat → List Bool → Prop
  | 1, bs => K (bs.map not) = true
  | 2, bs => ∀ i, i < bs.length → sh bs i = false → K (fl bs i) = true
  | 7, bs => ∀ i, i + 1 < bs.length → K (xc bs i) = true
  | 8, bs => ∀ i, i + 1 < bs.length → K (bs.take (1 + i)) = true ∧ K (bs.drop (1 + i)) = true ∧ K [T (bs.take (1 + i)), T (bs.drop (1 + i))] = true
  | _, _ => True
theorem strOk_tx (bs : List Bool) : PyData.strOk (tx bs) = true := by
  show ((bs.map cn).toArray.all fun c => decide (c < 0x110000)) = true
  rw [List.all_toArray, List.all_map]
  exact List.all_eq_true.mpr fun b _ => by cases b <;> decide
theorem eq_tD (a b : List Bool) : eqD (tD a) (tD b) = some (.bl (a == b)) := by
  refine (eqD_str (strOk_tx a) (strOk_tx b)).trans ?_
  by_cases e : a = b
  · subst e; rw [beq_self_eq_true, beq_self_eq_true]
  · rw [beq_eq_false_iff_ne.mpr e, beq_eq_false_iff_ne.mpr fun z => e (tx_inj z)]
theorem ne_ints_nil (xs : List Int) : neD (.lst (xs.map D.int)) (.lst []) = some (.bl (!decide (xs.length = 0))) := by
  unfold neD
  rw [eqB_of (x := .list (xs.map PyData.int)) (y := .list []) (by show (convL (xs.map D.int)).map PyData.list = _; rw [convL_map D.int PyData.int fun _ => rfl]; rfl) rfl (shaped_intsL xs) rfl]
  cases xs <;> rfl
theorem any_len {α : Type} (p : α → Bool) : ∀ xs : List α, (!decide ((xs.filter p).length = 0)) = xs.any p
  | [] => rfl
  | x :: xs => by
    rw [List.any_cons, List.filter_cons]
    cases q : p x with
    | true => simp
    | false => rw [if_neg (by simp)]; exact any_len p xs
/-- places kept, told as a list that is not empty -/
theorem ne_kept {α : Type} (f : α → Int) (p : α → Bool) (xs : List α) : neD (.lst ((xs.filter p).map fun x => D.int (f x))) (.lst []) = some (.bl (xs.any p)) := by
  have := ne_ints_nil ((xs.filter p).map f)
  rw [List.map_map, List.length_map, any_len] at this
  exact this
theorem mul_sg (b : Bool) (n : Nat) : Txt.mul (sg b) (n : Int) = tx (List.replicate n b) := by
  unfold Txt.mul
  by_cases h : n = 0
  · subst h; rfl
  · rw [if_neg (by omega)]
    by_cases h1 : n = 1
    · subst h1; rfl
    · have e : ((n : Int) == 1 || (sg b).length == 0) = false := by
        rw [beq_eq_false_iff_ne.mpr (show (n : Int) ≠ 1 by omega)]; rfl
      rw [e, if_neg Bool.false_ne_true, Int.toNat_natCast]
      have key : ∀ (k : Nat) (acc : List Bool), (List.replicate k (sg b).cps).foldl (· ++ ·) (tx acc).cps = (tx (acc ++ List.replicate k b)).cps := fun k => by
        induction k with
        | zero =>
          intro acc
          show (tx acc).cps = (tx (acc ++ [])).cps
          rw [List.append_nil]
        | succ k ih =>
          intro acc
          rw [List.replicate_succ, List.foldl_cons, List.replicate_succ]
          have : (tx acc).cps ++ (sg b).cps = (tx (acc ++ [b])).cps := congrArg Str.cps (tx_app acc [b])
          rw [this, ih, List.append_assoc]; rfl
      have := key n []
      rw [List.nil_append] at this
      exact congrArg Str.mk this
theorem md_rep {bs : List Bool} (h0 : bs ≠ []) : (bs == List.replicate bs.length (hd bs)) = !md bs := by
  cases bs with
  | nil => exact absurd rfl h0
  | cons b r =>
    have key : ∀ r : List Bool, (r == List.replicate r.length b) = !r.contains (!b) := fun r => by
      induction r with
      | nil => rfl
      | cons c r ih =>
        rw [List.length_cons, List.replicate_succ, List.cons_beq_cons, ih, List.contains_cons]
        cases b <;> cases c <;> rfl
    show ((b :: r) == List.replicate (r.length + 1) b) = _
    rw [List.replicate_succ, List.cons_beq_cons, key r]
    unfold md
    rw [List.contains_cons, List.contains_cons]
    cases b <;> simp
theorem asg3_of {ρ : List Sl} {s s1 : Tau} {da : Dn} {x y z : D} {i j k : Nat} (h1 : da ρ s = some (.tup [x, y, z], s1)) : dAsg da (gdTup 3 (gdCons (gdName i) (gdCons (gdName j) (gdCons (gdName k) gdNil)))) ρ s = some (.nx (((ρ.set i (.im x)).set j (.im y)).set k (.im z)), s1) := by
  unfold dAsg
  rw [h1]; rfl
theorem lstRg_of {da : Dn} {ρ : List Sl} {s s1 : Tau} {n : Nat} (h : da ρ s = some (.int (n : Nat), s1)) (hn : n ≤ 1000000) : dLstRg1 da ρ s = some (.lst ((List.range n).map fun i : Nat => D.int i), s1) := by
  unfold dLstRg1
  rw [h]
  show (if decide (0 ≤ (n : Int) ∧ (n : Int) ≤ 1000000) = true then some (D.lst (rngL 0 (n : Int).toNat), s1) else none) = _
  rw [if_pos (decide_eq_true (by omega)), Int.toNat_natCast, rngL_zero]
theorem rest_rng (n : Nat) : ((List.range n).map fun i : Nat => D.int i).drop 1 = (List.range (n - 1)).map fun i : Nat => D.int (1 + i : Nat) := by
  cases n with
  | zero => rfl
  | succ n =>
    rw [List.range_succ_eq_map, List.map_cons, List.map_map, List.drop_one, List.tail_cons, Nat.add_sub_cancel]
    refine List.map_congr_left fun i _ => ?_
    show D.int ((i + 1 : Nat) : Int) = _
    rw [Nat.add_comm]
theorem sl_rest (xs : List D) : slD (.lst xs) (some 1) none = some (.lst (xs.drop 1)) := by
  show some (D.lst (cutL xs (some ((1 : Nat) : Int)) none)) = _
  rw [cut_from]
theorem snoc_rng (n : Nat) (hn : n ≤ 1000) : addD (.lst ((List.range n).map fun i : Nat => D.int i)) (.lst [.int (n : Nat)]) = some (.lst ((List.range (n + 1)).map fun i : Nat => D.int i)) := by
  show (if ((List.range n).map fun i : Nat => D.int i).length + 1 ≤ 1000000 then some (D.lst (((List.range n).map fun i : Nat => D.int i) ++ [D.int (n : Nat)])) else none) = _
  rw [if_pos (by rw [List.length_map, List.length_range]; omega), List.range_succ, List.map_append]; rfl
theorem get_tab {es : List (Str × D)} {T K : List Bool → Bool} (h : TabS es T K) {bs : List Bool} (hk : K bs = true) : dgetD (.dS es) (tD bs) = some (gD (T bs)) := (h bs).trans (if_pos hk)
theorem get2_tab {es : List (Str × D)} {T K : List Bool → Bool} (h : TabS es T K) (bs : List Bool) (b : Bool) : dget2D (.dS es) (tD bs) (gD b) = some (gD (gt T K bs b)) := by
  show some ((lookD es (tx bs)).getD (gD b)) = _
  rw [h bs]
  unfold gt
  split <;> rfl
theorem get2_of {ρ : List Sl} {s s1 s2 s3 : Tau} {da db dc : Dn} {x y z w : D} (h1 : da ρ s = some (x, s1)) (h2 : db ρ s1 = some (y, s2)) (h3 : dc ρ s2 = some (z, s3)) (h4 : dget2D x y z = some w) : dGet2 da db dc ρ s = some (w, s3) := by
  unfold dGet2
  rw [h1]
  show Option.bind (db ρ s1) _ = _
  rw [h2]
  show Option.bind (dc ρ s2) _ = _
  rw [h3]
  show Option.map _ (dget2D x y z) = _
  rw [h4]; rfl
theorem sh_at {bs : List Bool} {i : Nat} (h : i < bs.length) : bs[i]? = some (sh bs i) := by
  unfold sh
  rw [List.getElem?_eq_getElem h]; rfl
/-- the rows of at most three voices -/
def sh3 : List (List Bool) := rb 1 ++ rb 2 ++ rb 3
/-- a length at which some place is not heard -/
def deaf (T : List Bool → Bool) (n : Nat) : Bool := (List.range n).any fun i => !(rb n).any fun bs => !(T bs == T (fl bs i))
/-- the p-th promise is kept by what is told -/
def fine (T K : List Bool → Bool) (p : Nat) : Bool :=
  if p = 3 then !((List.range 3).any fun i => deaf T (1 + i)) else if p = 5 then (sh3.any fun bs => md bs && T bs) && (sh3.any fun bs => md bs && !T bs) else !(sh3.any fun bs => torn T K p bs)
theorem cntL_sg (l : List Bool) : cntL (l.map sg) = (if l.contains true then 1 else 0) + (if l.contains false then 1 else 0) := by
  have key : ∀ l : List Bool, cntM (l.map sg) = (if l.contains true then 1 else 0) + (if l.contains false then 1 else 0) := fun l => by
    induction l with
    | nil => rfl
    | cons b l ih =>
      show cntM (l.map sg) + (if (l.map sg).contains (sg b) then 0 else 1) = _
      rw [ih, contains_map_inj (fun a b h => by revert h; revert a b; decide) b l, List.contains_cons, List.contains_cons]
      cases b <;> cases l.contains true <;> cases l.contains false <;> rfl
  have h := key l.reverse
  unfold cntL
  rw [← List.map_reverse, h]
  have e : ∀ c : Bool, l.reverse.contains c = l.contains c := fun c => by
    rw [List.contains_eq_mem, List.contains_eq_mem]
    exact decide_eq_decide.mpr List.mem_reverse
  rw [e, e]
end Dl
end
section
set_option Elab.async false
set_option linter.all false
set_option maxRecDepth 100000
set_option maxHeartbeats 4000000
open PySem L2 Dl
namespace Rk09
def c_ALLOW : D := .str "allow"
def c_DENY : D := .str "deny"
def l_VOICES : List Str := ["allow", "deny"]
def c_VOICES : D := .ktp (l_VOICES.map D.str)
def c_MOST_ROW : D := .int 12
def l_WAYS : List Str := ["allow over", "always allow", "always deny", "both ends", "deny over", "first", "island", "last", "most or allow", "most or deny", "most or first", "most or last", "odd"]
def c_WAYS : D := .ktp (l_WAYS.map D.str)
def d_need_way : Ds := (dIfS (dOr (dNot (dB (dUn (isiD "str") (dVar 0)))) (dB (dOp ninD (dVar 0) (dC c_WAYS)))) dNever dNext)
def f_need_way : Fn := fnD 1 d_need_way
def d_joined : Ds := (dRet (dCallB tupleD (dCons (dLc (dEnT (dCons (dVar 0) dNil)) (gdTup 2 (gdCons (gdName 1) (gdCons (gdName 2) gdNil))) (dOr (dB (dOp eqD (dVar 1) (dC (.int 0)))) (dB (dOp neD (dVar 2) (dOp ixD (dVar 0) (dOp subD (dVar 1) (dC (.int 1))))))) (dVar 2) [1, 2]) dNil)))
def f_joined : Fn := fnD 3 d_joined
def d_said : Ds := (dRet (dIf (dB (dVar 0)) (dC c_ALLOW) (dC c_DENY)))
def f_said : Fn := fnD 1 d_said
def d_most_of : Ds := (dSeq (dPar 2 3 (dCons (dOp countD (dVar 1) (dC c_ALLOW)) (dCons (dOp countD (dVar 1) (dC c_DENY)) dNil)))
  (dSeq (dIfS (dB (dOp neD (dVar 2) (dVar 3))) (dRet (dCall f_said (dCons (dOp gtD (dVar 2) (dVar 3)) dNil))) dNext)
  (dSeq (dIfS (dB (dOp inD (dVar 0) (dTup (dCons (dC (.str "most or first")) (dCons (dC (.str "most or last")) dNil))))) (dRet (dIf (dB (dOp eqD (dVar 0) (dC (.str "most or first")))) (dOp ixD (dVar 1) (dC (.int 0))) (dOp ixD (dVar 1) (dUn negD (dC (.int 1)))))) dNext)
  (dRet (dIf (dB (dOp eqD (dVar 0) (dC (.str "most or allow")))) (dC c_ALLOW) (dC c_DENY))))))
def f_most_of : Fn := fnD 4 d_most_of
def d_answer_of : Ds := (dSeq (dIfS (dB (dOp eqD (dSl slD (dVar 0) dNone (dSome (dC (.int 4)))) (dC (.str "most")))) (dRet (dCall f_most_of (dCons (dVar 0) (dCons (dVar 1) dNil)))) dNext)
  (dSeq (dIfS (dB (dOp inD (dVar 0) (dTup (dCons (dC (.str "first")) (dCons (dC (.str "last")) dNil))))) (dRet (dIf (dB (dOp eqD (dVar 0) (dC (.str "first")))) (dOp ixD (dVar 1) (dC (.int 0))) (dOp ixD (dVar 1) (dUn negD (dC (.int 1)))))) dNext)
  (dSeq (dIfS (dB (dOp inD (dVar 0) (dTup (dCons (dC (.str "allow over")) (dCons (dC (.str "deny over")) dNil))))) (dRet (dCall f_said (dCons (dIf (dB (dOp eqD (dVar 0) (dC (.str "allow over")))) (dOp inD (dC c_ALLOW) (dVar 1)) (dOp ninD (dC c_DENY) (dVar 1))) dNil))) dNext)
  (dSeq (dIfS (dB (dOp eqD (dVar 0) (dC (.str "odd")))) (dRet (dCall f_said (dCons (dOp eqD (dOp modD (dOp countD (dVar 1) (dC c_DENY)) (dC (.int 2))) (dC (.int 0))) dNil))) dNext)
  (dSeq (dIfS (dB (dOp eqD (dVar 0) (dC (.str "both ends")))) (dRet (dCall f_said (dCons (dAndV (dOp eqD (dOp ixD (dVar 1) (dC (.int 0))) (dC c_ALLOW)) (dOp eqD (dOp ixD (dVar 1) (dUn negD (dC (.int 1)))) (dC c_ALLOW))) dNil))) dNext)
  (dSeq (dIfS (dB (dOp eqD (dVar 0) (dC (.str "island")))) (dRet (dCall f_said (dCons (dOp inD (dCall f_joined (dCons (dVar 1) dNil)) (dTup (dCons (dTup (dCons (dC c_ALLOW) dNil)) (dCons (dTup (dCons (dC c_DENY) (dCons (dC c_ALLOW) (dCons (dC c_DENY) dNil)))) dNil)))) dNil))) dNext)
  (dRet (dCall f_said (dCons (dOp eqD (dVar 0) (dC (.str "always allow"))) dNil)))))))))
def f_answer_of : Fn := fnD 2 d_answer_of
def d_is_voice : Ds := (dRet (dAndV (dUn (isiD "str") (dVar 0)) (dOp inD (dVar 0) (dC c_VOICES))))
def f_is_voice : Fn := fnD 1 d_is_voice
def d_need_row : Ds := (dSeq (dIfS (dOr (dNot (dB (dUn (isiD "tuple") (dVar 0)))) (dNot (dB (dChain leD leD (dC (.int 1)) (dCallB lenD (dCons (dVar 0) dNil)) (dC c_MOST_ROW))))) dNever dNext)
  (dFor (dRng1 (dCons (dCallB lenD (dCons (dVar 0) dNil)) dNil)) (gdName 1) (dIfS (dNot (dB (dCall f_is_voice (dCons (dOp ixD (dVar 0) (dVar 1)) dNil)))) dNever dNext)))
def f_need_row : Fn := fnD 2 d_need_row
def d_need_both : Ds := (dSeq (dDrop (dCall f_need_way (dCons (dVar 0) dNil)))
  (dDrop (dCall f_need_row (dCons (dVar 1) dNil))))
def f_need_both : Fn := fnD 2 d_need_both
def d_turned : Ds := (dRet (dIf (dB (dOp eqD (dVar 0) (dC c_ALLOW))) (dC c_DENY) (dC c_ALLOW)))
def f_turned : Fn := fnD 1 d_turned
def d_turned_at : Ds := (dRet (dTup (dStar (dSl slD (dVar 0) dNone (dSome (dVar 1))) (dCons (dCall f_turned (dCons (dOp ixD (dVar 0) (dVar 1)) dNil)) (dStar (dSl slD (dVar 0) (dSome (dOp addD (dVar 1) (dC (.int 1)))) dNone) dNil)))))
def f_turned_at : Fn := fnD 2 d_turned_at
def d_matters : Ds := (dSeq (dDrop (dCall f_need_both (dCons (dVar 0) (dCons (dVar 1) dNil))))
  (dSeq (dAsg (dCall f_answer_of (dCons (dVar 0) (dCons (dVar 1) dNil))) (gdName 2))
  (dRet (dCallB tupleD (dCons (dLc (dRng1 (dCons (dCallB lenD (dCons (dVar 1) dNil)) dNil)) (gdName 3) (dB (dOp neD (dCall f_answer_of (dCons (dVar 0) (dCons (dCall f_turned_at (dCons (dVar 1) (dCons (dVar 3) dNil))) dNil))) (dVar 2))) (dVar 3) [3]) dNil)))))
def f_matters : Fn := fnD 4 d_matters
def d_signs_of : Ds := (dRet (dMethS joinSD (dC (.str "")) (dCons (dLc (dItT (dVar 0)) (gdName 1) dYes (dIf (dB (dOp eqD (dVar 1) (dC c_ALLOW))) (dC (.str "+")) (dC (.str "-"))) [1]) dNil)))
def f_signs_of : Fn := fnD 2 d_signs_of
def dx_need_text : Dxs := (dxSeq (dxIf (dNot (dB (dUn (isiD "str") (dVar 0)))) (dxSeq (dxRaise "NotText")
  dxNext) dxNext)
  dxNext)
def fx_need_text : Fnx := dxFn 1 dx_need_text
def d__law_taken : Ds := (dSeq (dIfS (dB (dOp gtD (dRw 0 3) (dC (.int 0)))) (dSeq (dAsg (dOp modD (dCallB intD (dCons (dRw 0 3) dNil)) (dVar 1)) (gdName 2))
  (dSeq (dRwSet 0 3 (dOp fdivD (dRw 0 3) (dVar 1)))
  (dRet (dVar 2)))) dNext)
  (dSeq (dRwSet 0 1 (dOp addD (dRw 0 1) (dC (.int 1))))
  (dSeq (dIfS (dB (dOp gtD (dRw 0 1) (dCallB lenD (dCons (dRw 0 0) dNil)))) (dSeq (dRwSet 0 2 (dOp modD (dCallB intD (dCons (dOp addD (dOp mulD (dRw 0 2) (dC (.int 48271))) (dC (.int 11))) dNil)) (dC (.int 2147483647))))
  (dRet (dOp modD (dCallB intD (dCons (dOp fdivD (dRw 0 2) (dC (.int 7))) dNil)) (dVar 1)))) dNext)
  (dSeq (dAsg (dOp ixD (dRw 0 0) (dOp subD (dRw 0 1) (dC (.int 1)))) (gdName 3))
  (dSeq (dRwSet 0 2 (dOp modD (dCallB intD (dCons (dOp addD (dOp addD (dOp mulD (dRw 0 2) (dC (.int 48271))) (dVar 3)) (dC (.int 11))) dNil)) (dC (.int 2147483647))))
  (dSeq (dIfS (dB (dOp geD (dVar 3) (dOp powD (dC (.int 10)) (dC (.int 18))))) (dRwSet 0 3 (dOp fdivD (dVar 3) (dVar 1))) dNext)
  (dRet (dOp modD (dCallB intD (dCons (dVar 3) dNil)) (dVar 1)))))))))
def f__law_taken : Fn := fnD 4 d__law_taken
def d__law_pick : Ds := (dRet (dOp ixD (dVar 1) (dCall f__law_taken (dCons (dVar 0) (dCons (dCallB lenD (dCons (dVar 1) dNil)) dNil)))))
def f__law_pick : Fn := fnD 2 d__law_pick
def d__law_alike (fx : Fn) : Ds := (dSeq (dIfS (dB (dUn (isi2D "tuple" "list") (dVar 1))) (dSeq (dIfS (dOr (dNot (dB (dUn (isi2D "tuple" "list") (dVar 0)))) (dB (dOp neD (dUn (isiD "list") (dVar 0)) (dUn (isiD "list") (dVar 1))))) (dRet (dC (.bl false))) dNext)
  (dSeq (dIfS (dB (dOp neD (dCallB lenD (dCons (dVar 0) dNil)) (dCallB lenD (dCons (dVar 1) dNil)))) (dRet (dC (.bl false))) dNext)
  (dRet (dOp eqD (dLc (dRng1 (dCons (dCallB lenD (dCons (dVar 1) dNil)) dNil)) (gdName 2) (dNot (dB (dCall fx (dCons (dOp ixD (dVar 0) (dVar 2)) (dCons (dOp ixD (dVar 1) (dVar 2)) dNil))))) (dVar 2) [2]) (dLst dNil))))) dNext)
  (dSeq (dIfS (dOr (dB (dUn isN (dVar 1))) (dB (dUn (isiD "str") (dVar 1)))) (dRet (dAndV (dOp eqD (dVar 0) (dVar 1)) (dOp eqD (dUn (isiD "str") (dVar 0)) (dUn (isiD "str") (dVar 1))))) dNext)
  (dRet (dAndV (dUn (isiD "int") (dVar 0)) (dAndV (dOp eqD (dUn (isiD "bool") (dVar 0)) (dUn (isiD "bool") (dVar 1))) (dOp eqD (dVar 0) (dVar 1)))))))
def f__law_alike : Nat → Fn
  | 0 => fnD 3 dNever
  | n + 1 => fnD 3 (d__law_alike (f__law_alike n))
def d__law_answer : Ds := (dSeq (dAsg (dOp subD (dMethS countSD (dVar 1) (dCons (dC (.str "+")) dNil)) (dMethS countSD (dVar 1) (dCons (dC (.str "-")) dNil))) (gdName 2))
  (dSeq (dIfS (dB (dOp eqD (dSl slD (dVar 0) dNone (dSome (dC (.int 7)))) (dC (.str "most or")))) (dSeq (dAsg (dDisp (dpCons (dC (.str "allow")) (dC (.str "+")) (dpCons (dC (.str "deny")) (dC (.str "-")) (dpCons (dC (.str "first")) (dOp ixD (dVar 1) (dC (.int 0))) (dpCons (dC (.str "last")) (dOp ixD (dVar 1) (dUn negD (dC (.int 1)))) dpNil))))) (gdName 3))
  (dRet (dIf (dB (dOp eqD (dVar 2) (dC (.int 0)))) (dOp dgetD (dVar 3) (dSl slD (dVar 0) (dSome (dC (.int 8))) dNone)) (dIf (dB (dOp gtD (dVar 2) (dC (.int 0)))) (dC (.str "+")) (dC (.str "-")))))) dNext)
  (dSeq (dIfS (dB (dOp inD (dVar 0) (dLst (dCons (dC (.str "first")) (dCons (dC (.str "last")) dNil))))) (dRet (dOp ixD (dVar 1) (dIf (dB (dOp eqD (dVar 0) (dC (.str "first")))) (dC (.int 0)) (dOp subD (dCallB lenD (dCons (dVar 1) dNil)) (dC (.int 1)))))) dNext)
  (dSeq (dAsg (dOp eqD (dVar 0) (dC (.str "always allow"))) (gdName 4))
  (dSeq (dIfS (dB (dOp eqD (dVar 0) (dC (.str "allow over")))) (dAsg (dOp gtD (dMethS countSD (dVar 1) (dCons (dC (.str "+")) dNil)) (dC (.int 0))) (gdName 4)) dNext)
  (dSeq (dIfS (dB (dOp eqD (dVar 0) (dC (.str "deny over")))) (dAsg (dOp eqD (dMethS countSD (dVar 1) (dCons (dC (.str "-")) dNil)) (dC (.int 0))) (gdName 4)) dNext)
  (dSeq (dIfS (dB (dOp eqD (dVar 0) (dC (.str "odd")))) (dAsg (dOp inD (dMethS countSD (dVar 1) (dCons (dC (.str "-")) dNil)) (dLst (dCons (dC (.int 0)) (dCons (dC (.int 2)) (dCons (dC (.int 4)) (dCons (dC (.int 6)) (dCons (dC (.int 8)) (dCons (dC (.int 10)) (dCons (dC (.int 12)) dNil))))))))) (gdName 4)) dNext)
  (dSeq (dIfS (dB (dOp eqD (dVar 0) (dC (.str "both ends")))) (dAsg (dOp eqD (dOp addD (dSl slD (dVar 1) dNone (dSome (dC (.int 1)))) (dSl slD (dVar 1) (dSome (dUn negD (dC (.int 1)))) dNone)) (dC (.str "++"))) (gdName 4)) dNext)
  (dSeq (dIfS (dB (dOp eqD (dVar 0) (dC (.str "island")))) (dSeq (dAsg (dLc (dRng2 (dCons (dC (.int 1)) (dCons (dCallB lenD (dCons (dVar 1) dNil)) dNil))) (gdName 6) (dB (dOp neD (dOp ixD (dVar 1) (dVar 6)) (dOp ixD (dVar 1) (dOp subD (dVar 6) (dC (.int 1)))))) (dVar 6) [6]) (gdName 5))
  (dAsg (dOrV (dAndV (dOp eqD (dOp ixD (dVar 1) (dC (.int 0))) (dC (.str "+"))) (dOp eqD (dVar 5) (dLst dNil))) (dAndV (dOp eqD (dOp ixD (dVar 1) (dC (.int 0))) (dC (.str "-"))) (dOp eqD (dCallB lenD (dCons (dVar 5) dNil)) (dC (.int 2))))) (gdName 4))) dNext)
  (dRet (dIf (dB (dVar 4)) (dC (.str "+")) (dC (.str "-")))))))))))))
def f__law_answer : Fn := fnD 7 d__law_answer
def d__law_turned : Ds := (dRet (dMethS joinSD (dC (.str "")) (dCons (dLc (dItS (dVar 0)) (gdName 1) dYes (dIf (dB (dOp eqD (dVar 1) (dC (.str "+")))) (dC (.str "-")) (dC (.str "+"))) [1]) dNil)))
def f__law_turned : Fn := fnD 2 d__law_turned
def d__law_flip : Ds := (dRet (dOp addD (dOp addD (dSl slD (dVar 0) dNone (dSome (dVar 1))) (dCall f__law_turned (dCons (dOp ixD (dVar 0) (dVar 1)) dNil))) (dSl slD (dVar 0) (dSome (dOp addD (dVar 1) (dC (.int 1)))) dNone)))
def f__law_flip : Fn := fnD 2 d__law_flip
def d__law_word : Ds := (dRet (dOp dgetD (dDisp (dpCons (dC (.str "+")) (dC (.str "allow")) (dpCons (dC (.str "-")) (dC (.str "deny")) dpNil))) (dVar 0)))
def f__law_word : Fn := fnD 1 d__law_word
def d__law_voices : Ds := (dRet (dCallB tupleD (dCons (dLc (dItS (dVar 0)) (gdName 1) dYes (dCall f__law_word (dCons (dVar 1) dNil)) [1]) dNil)))
def f__law_voices : Fn := fnD 2 d__law_voices
def f_Desk_row (C : Addr) : Fn := fnD 1 (dRet (dUn (fldD C 1) (dVar 0)))
def f_Desk_answer (C : Addr) : Fn := fnD 1 (dRet (dUn (fldD C 2) (dVar 0)))
def f_Desk__told (C : Addr) : Fn := fnD 4 (dSeq (dIfS (dB (dOp eqD (dVar 1) (dC (.str "row")))) (dRet (dCall f_signs_of (dCons (dUn (fldD C 1) (dVar 0)) dNil))) dNext)
  (dSeq (dIfS (dB (dOp eqD (dVar 1) (dC (.str "answer")))) (dRet (dIf (dB (dUn isN (dUn (fldD C 2) (dVar 0)))) (dC (.str "none")) (dUn (fldD C 2) (dVar 0)))) dNext)
  (dSeq (dIfS (dB (dOp eqD (dVar 1) (dC (.str "matters")))) (dSeq (dAsg (dIf (dB (dOp neD (dUn (fldD C 1) (dVar 0)) (dTup dNil))) (dCall f_matters (dCons (dUn (fldD C 0) (dVar 0)) (dCons (dUn (fldD C 1) (dVar 0)) dNil))) (dTup dNil)) (gdName 2))
  (dRet (dIf (dB (dOp neD (dVar 2) (dTup dNil))) (dMethS joinSD (dC (.str " ")) (dCons (dLc (dItT (dVar 2)) (gdName 3) dYes (dCallB strID (dCons (dVar 3) dNil)) [3]) dNil)) (dC (.str "none"))))) dNext)
  (dRet (dC .non)))))
def dl_Desk (C : Addr) : Dn := (dIf (dB (dOp neD (dVar 1) (dTup dNil))) (dCall f_answer_of (dCons (dUn (fldD C 0) (dVar 0)) (dCons (dVar 1) dNil))) (dC .non))
def fl_Desk (C : Addr) (w a row : D) (s : Tau) : Option (D × Tau) := dl_Desk C [.im (.dsk C w row a), .im row] s
def fi_Desk (C : Addr) : D → Tau → Option ((D × D) × Tau) := initD f_need_way (dl_Desk C)
def fx_Desk_run (C : Addr) : Fnx := dxFn 3 (dxSeq (dxExpr (dCallR fx_need_text (dCons (dVar 1) dNil)))
  (dxSeq (dxLift (dAsg (dMth C (f_Desk__told C) (dVar 0) (dCons (dVar 1) dNil)) (gdName 2)))
  (dxSeq (dxLift (dIfS (dB (dUn notN (dVar 2))) (dRet (dVar 2)) dNext))
  (dxSeq (dxIf (dB (dOp ninD (dVar 1) (dC c_VOICES))) (dxSeq (dxRaise "InvalidText")
  dxNext) dxNext)
  (dxSeq (dxIf (dB (dOp eqD (dCallB lenD (dCons (dUn (fldD C 1) (dVar 0)) dNil)) (dC c_MOST_ROW))) (dxSeq (dxRaise "NotNow")
  dxNext) dxNext)
  dxNever)))))
def dm_Desk_run (C : Addr) : DMs := (dmCons (dpDrop (dCallA fx_need_text (dCons (dVar 1) dNil)))
  (dmCons (dpSet 2 (dMth C (f_Desk__told C) (dVar 0) (dCons (dVar 1) dNil)))
  (dmCons (dpIf (dB (dUn notN (dVar 2))))
  (dmCons (dpIf (dB (dOp ninD (dVar 1) (dC c_VOICES))))
  (dmCons (dpIf (dB (dOp eqD (dCallB lenD (dCons (dUn (fldD C 1) (dVar 0)) dNil)) (dC c_MOST_ROW))))
  (dmLay C (fl_Desk C) (dCons (dTup (dStar (dUn (fldD C 1) (dVar 0)) (dCons (dVar 1) dNil))) dNil)))))))
def fm_Desk_run (C : Addr) (ds : List D) (s : Tau) : Option ((D × D × D) × Tau) := dm_Desk_run C (ds.map Sl.im ++ List.replicate (3 - ds.length) .un) s
def fx_Desk_undo (C : Addr) : Fnx := dxFn 1 (dxSeq (dxIf (dB (dOp eqD (dUn (fldD C 1) (dVar 0)) (dTup dNil))) (dxSeq (dxRaise "NothingToUndo")
  dxNext) dxNext)
  dxNever)
def dm_Desk_undo (C : Addr) : DMs := (dmCons (dpIf (dB (dOp eqD (dUn (fldD C 1) (dVar 0)) (dTup dNil))))
  (dmLay C (fl_Desk C) (dCons (dSl slF (dUn (fldD C 1) (dVar 0)) dNone (dSome (dUn negD (dC (.int 1))))) dNil)))
def fm_Desk_undo (C : Addr) (ds : List D) (s : Tau) : Option ((D × D × D) × Tau) := dm_Desk_undo C (ds.map Sl.im ++ List.replicate (1 - ds.length) .un) s
def d__law_shown (C : Addr) : Ds := (dSeq (dAsg (dIf (dB (dOp neD (dVar 2) (dC (.str "")))) (dCall f__law_answer (dCons (dVar 1) (dCons (dVar 2) dNil))) (dC .non)) (gdName 3))
  (dSeq (dIfS (dNot (dB (dCall (f__law_alike 4) (dCons (dLst (dCons (dProp C (f_Desk_row C) (dVar 0)) (dCons (dProp C (f_Desk_answer C) (dVar 0)) dNil))) (dCons (dLst (dCons (dCall f__law_voices (dCons (dVar 2) dNil)) (dCons (dIf (dB (dUn notN (dVar 3))) (dCall f__law_word (dCons (dVar 3) dNil)) (dC .non)) dNil))) dNil))))) (dRet (dC (.bl false))) dNext)
  (dSeq (dIfS (dOr (dB (dOp neD (dMethA C (fx_Desk_run C) (dVar 0) (dCons (dC (.str "row")) dNil)) (dVar 2))) (dB (dOp neD (dMethA C (fx_Desk_run C) (dVar 0) (dCons (dC (.str "answer")) dNil)) (dIf (dB (dUn notN (dVar 3))) (dCall f__law_word (dCons (dVar 3) dNil)) (dC (.str "none")))))) (dRet (dC (.bl false))) dNext)
  (dSeq (dAsg (dLc (dRng1 (dCons (dCallB lenD (dCons (dVar 2) dNil)) dNil)) (gdName 5) (dB (dOp neD (dCall f__law_answer (dCons (dVar 1) (dCons (dCall f__law_flip (dCons (dVar 2) (dCons (dVar 5) dNil))) dNil))) (dVar 3))) (dCallB strID (dCons (dVar 5) dNil)) [5]) (gdName 4))
  (dRet (dOp eqD (dMethA C (fx_Desk_run C) (dVar 0) (dCons (dC (.str "matters")) dNil)) (dIf (dB (dOp neD (dVar 4) (dLst dNil))) (dMethS joinSD (dC (.str " ")) (dCons (dVar 4) dNil)) (dC (.str "none")))))))))
def f__law_shown (C : Addr) : Fn := fnD 6 (d__law_shown C)
def d__law_ways : Ds := (dRet (dLst (dCons (dC (.str "allow over")) (dCons (dC (.str "always allow")) (dCons (dC (.str "always deny")) (dCons (dC (.str "both ends")) (dCons (dC (.str "deny over")) (dCons (dC (.str "first")) (dCons (dC (.str "island")) (dCons (dC (.str "last")) (dCons (dC (.str "most or allow")) (dCons (dC (.str "most or deny")) (dCons (dC (.str "most or first")) (dCons (dC (.str "most or last")) (dCons (dC (.str "odd")) dNil)))))))))))))))
def f__law_ways : Fn := fnD 0 d__law_ways
def kb_InvalidText : Str → Bool := fun nm => nm == "InvalidText"
def kb_NotNow : Str → Bool := fun nm => nm == "NotNow"
def kb_NotText : Str → Bool := fun nm => nm == "NotText"
def kb_NothingToUndo : Str → Bool := fun nm => nm == "NothingToUndo"
def NM : List (Str × Bool) := [("InvalidText", false), ("NotNow", false), ("NotText", false), ("NothingToUndo", false)]
def dx_lam0 (C : Addr) : Dxe := (dLendX 4 (dMethR C (fx_Desk_undo C) (dVar 4) dNil))
def dx_lam1 (C : Addr) : Dxe := (dLendX 4 (dMethR C (fx_Desk_run C) (dVar 4) (dCons (dCall f__law_pick (dCons (dVar 1) (dCons (dLst (dCons (dC (.str "")) (dCons (dC (.str "Allow")) (dCons (dC (.str "deny ")) (dCons (dC (.str "+")) (dCons (dC (.str "allow deny")) (dCons (dC (.str "answer ")) dNil))))))) dNil))) dNil)))
def dx_lam2 (C : Addr) : Dxe := (dLendX 4 (dMethR C (fx_Desk_run C) (dVar 4) (dCons (dCall f__law_pick (dCons (dVar 1) (dCons (dLst (dCons (dC .non) (dCons (dC (.int 5)) (dCons (dLst (dCons (dC (.str "deny")) dNil)) (dCons (dTup (dCons (dC (.str "deny")) dNil)) dNil))))) dNil))) dNil)))
def dx_lam3 (C : Addr) : Dxe := (dLendX 4 (dMethR C (fx_Desk_run C) (dVar 4) (dCons (dCall f__law_pick (dCons (dVar 1) (dCons (dLst (dCons (dC (.str "allow")) (dCons (dC (.str "deny")) dNil))) dNil))) dNil)))
def dsu : Dsu := fun nm a d => (dSeq (dAsg (dLst (dCons (dIsZ (kb_InvalidText nm) 1 a d) (dCons (dIsZ (kb_NotNow nm) 1 a d) (dCons (dIsZ (kb_NotText nm) 1 a d) (dCons (dIsZ (kb_NothingToUndo nm) 1 a d) dNil))))) (gdName 2))
  (dRet (dIf (dB (dOp eqD (dMethL blCntD (dVar 2) (dCons (dC (.bl true)) dNil)) (dC (.int 1)))) (dOp ixD (dLst (dCons (dC (.str "invalid")) (dCons (dC (.str "now")) (dCons (dC (.str "text")) (dCons (dC (.str "undo")) dNil))))) (dMethL blIxD (dVar 2) (dCons (dC (.bl true)) dNil))) (dC (.str "other")))))
noncomputable def d_law (C : Addr) (cl : List (Str × Addr)) : Ds := (dSeq (dPar 2 3 (dCons (dCall f__law_pick (dCons (dVar 1) (dCons (dCall f__law_ways dNil) dNil))) (dCons (dC (.str "")) dNil)))
  (dSeq (dOwn (dMk C (fi_Desk C) (dVar 2)) 4)
  (dSeq (dIfS (dOr (dB (dOp neD (dTold [(0, dx_lam0 C)] cl NM 3 dsu (dLam 0 cl)) (dC (.str "undo")))) (dNot (dB (dLend 4 (dCall (f__law_shown C) (dCons (dVar 4) (dCons (dVar 2) (dCons (dVar 3) dNil)))))))) (dRet (dC (.bl false))) dNext)
  (dSeq (dFor (dRng1 (dCons (dCall f__law_taken (dCons (dVar 1) (dCons (dC (.int 18)) dNil))) dNil)) (gdName 5) (dSeq (dAsg (dCall f__law_taken (dCons (dVar 1) (dCons (dC (.int 8)) dNil))) (gdName 6))
  (dIfS (dB (dOp eqD (dVar 6) (dC (.int 0)))) (dIfS (dB (dOp neD (dTold [(1, dx_lam1 C)] cl NM 3 dsu (dLam 1 cl)) (dC (.str "invalid")))) (dRet (dC (.bl false))) dNext) (dIfS (dB (dOp eqD (dVar 6) (dC (.int 1)))) (dIfS (dB (dOp neD (dTold [(2, dx_lam2 C)] cl NM 3 dsu (dLam 2 cl)) (dC (.str "text")))) (dRet (dC (.bl false))) dNext) (dIfS (dAnd (dB (dOp eqD (dVar 6) (dC (.int 2)))) (dB (dOp neD (dVar 3) (dC (.str ""))))) (dSeq (dMut0 4 C (fm_Desk_undo C))
  (dAsg (dSl slD (dVar 3) dNone (dSome (dUn negD (dC (.int 1))))) (gdName 3))) (dIfS (dB (dOp ltA (dCallB lenD (dCons (dVar 3) dNil)) (dC (.int 12)))) (dSeq (dAsg (dCall f__law_pick (dCons (dVar 1) (dCons (dLst (dCons (dC (.str "+")) (dCons (dC (.str "-")) dNil))) dNil))) (gdName 7))
  (dSeq (dMut1 4 C (fm_Desk_run C) (dCons (dCall f__law_word (dCons (dVar 7) dNil)) dNil))
  (dAsg (dOp addD (dVar 3) (dVar 7)) (gdName 3)))) (dIfS (dB (dOp neD (dTold [(3, dx_lam3 C)] cl NM 3 dsu (dLam 3 cl)) (dC (.str "now")))) (dRet (dC (.bl false))) dNext)))))))
  (dRet (dLend 4 (dCall (f__law_shown C) (dCons (dVar 4) (dCons (dVar 2) (dCons (dVar 3) dNil))))))))))
end Rk09
end
section
set_option Elab.async false
set_option linter.all false
set_option maxRecDepth 100000
set_option maxHeartbeats 4000000
open PySem L2 Dl PyProof.Rows
namespace Rk09
/-! the draws -/
theorem taken_ok (s : Tau) (hs : 0 ≤ s.a) (m : Int) (h1 : 0 < m) (h2 : m < 1073741824) : ∃ d s', f__law_taken [.rw, .int m] s = some ((.int d, false), s') ∧ 0 ≤ d ∧ d < m ∧ 0 ≤ s'.a := by
  obtain ⟨a, b, c, ns⟩ := s
  have e0 : Int.emod c m < m := Int.emod_lt_of_pos _ h1
  have nz : m ≠ 0 := by omega
  by_cases hc : 0 < c
  · refine ⟨c % m, ⟨a, b, c / m, ns⟩, ?_, Int.emod_nonneg _ nz, Int.emod_lt_of_pos _ h1, hs⟩
    refine fn_rt (seq_ifT (s1 := ⟨a, b, c, ns⟩) ?_ ?_)
    · simp only [fnD, dSeq, dIfS, dRet, dAsg, dPar, dDrop, dNext, dVar, dC, dOp, dUn, dCallB, dCall, dMethS, dNil, dCons, dB, dNot, dAnd, dOr, dAndV, dOrV, dNotV, dIf, dTup, dLst, dSl, dNone, dSome, dChain, dDisp, dpCons, dpNil, dStar, gdName, gdTup, gdCons, gdNil, dRw, dRwSet, Tau.put, Dl.intD, modD, fdivD, subD, negD, ltD, gtD, geD, leD, i2, eqD_int, neD_int, eqD_bl, neD_bl, D.asT, D.its, isiD, isi2D, D.ty, isN, isNB, Option.bind_some, Option.bind_none, Option.map_some, Option.map_none, List.map_cons, List.map_nil, List.cons_append, List.nil_append, List.append_nil, List.length_cons, List.length_nil, List.getElem?_cons_zero, List.getElem?_cons_succ, List.replicate, List.set_cons_zero, List.set_cons_succ, Nat.sub_self, Nat.reduceAdd, Nat.reduceSub, Nat.add_sub_cancel, if_true, if_false, decide_true, decide_false, Bool.not_true, Bool.not_false, Bool.true_and, Bool.false_and, Bool.or_true, Bool.true_or, Bool.or_false, Bool.false_or, Bool.and_true, Bool.and_false, ite_true, ite_false, reduceIte, Bool.false_eq_true, hc]
    · simp only [fnD, dSeq, dIfS, dRet, dAsg, dPar, dDrop, dNext, dVar, dC, dOp, dUn, dCallB, dCall, dMethS, dNil, dCons, dB, dNot, dAnd, dOr, dAndV, dOrV, dNotV, dIf, dTup, dLst, dSl, dNone, dSome, dChain, dDisp, dpCons, dpNil, dStar, gdName, gdTup, gdCons, gdNil, dRw, dRwSet, Tau.put, Dl.intD, modD, fdivD, subD, negD, ltD, gtD, geD, leD, i2, eqD_int, neD_int, eqD_bl, neD_bl, D.asT, D.its, isiD, isi2D, D.ty, isN, isNB, Option.bind_some, Option.bind_none, Option.map_some, Option.map_none, List.map_cons, List.map_nil, List.cons_append, List.nil_append, List.append_nil, List.length_cons, List.length_nil, List.getElem?_cons_zero, List.getElem?_cons_succ, List.replicate, List.set_cons_zero, List.set_cons_succ, Nat.sub_self, Nat.reduceAdd, Nat.reduceSub, Nat.add_sub_cancel, if_true, if_false, decide_true, decide_false, Bool.not_true, Bool.not_false, Bool.true_and, Bool.false_and, Bool.or_true, Bool.true_or, Bool.or_false, Bool.false_or, Bool.and_true, Bool.and_false, ite_true, ite_false, reduceIte, Bool.false_eq_true, h1, h2, and_self]
  · have hs' : 0 ≤ a := hs
    by_cases hl : (ns.length : Int) < a + 1
    · refine ⟨((b * 48271 + 11) % 2147483647 / 7) % m, ⟨a + 1, (b * 48271 + 11) % 2147483647, c, ns⟩, ?_, Int.emod_nonneg _ nz, Int.emod_lt_of_pos _ h1, by show 0 ≤ a + 1; omega⟩
      refine fn_rt (seq_ifF (s1 := ⟨a, b, c, ns⟩) ?_ (seq_nx (ρ1 := [.im .rw, .im (.int m), .un, .un]) (s1 := ⟨a + 1, b, c, ns⟩) ?_ (seq_ifT (s1 := ⟨a + 1, b, c, ns⟩) ?_ ?_)))
      · simp only [fnD, dSeq, dIfS, dRet, dAsg, dPar, dDrop, dNext, dVar, dC, dOp, dUn, dCallB, dCall, dMethS, dNil, dCons, dB, dNot, dAnd, dOr, dAndV, dOrV, dNotV, dIf, dTup, dLst, dSl, dNone, dSome, dChain, dDisp, dpCons, dpNil, dStar, gdName, gdTup, gdCons, gdNil, dRw, dRwSet, Tau.put, Dl.intD, modD, fdivD, subD, negD, ltD, gtD, geD, leD, i2, eqD_int, neD_int, eqD_bl, neD_bl, D.asT, D.its, isiD, isi2D, D.ty, isN, isNB, Option.bind_some, Option.bind_none, Option.map_some, Option.map_none, List.map_cons, List.map_nil, List.cons_append, List.nil_append, List.append_nil, List.length_cons, List.length_nil, List.getElem?_cons_zero, List.getElem?_cons_succ, List.replicate, List.set_cons_zero, List.set_cons_succ, Nat.sub_self, Nat.reduceAdd, Nat.reduceSub, Nat.add_sub_cancel, if_true, if_false, decide_true, decide_false, Bool.not_true, Bool.not_false, Bool.true_and, Bool.false_and, Bool.or_true, Bool.true_or, Bool.or_false, Bool.false_or, Bool.and_true, Bool.and_false, ite_true, ite_false, reduceIte, Bool.false_eq_true, hc]
      · simp only [fnD, dSeq, dIfS, dRet, dAsg, dPar, dDrop, dNext, dVar, dC, dOp, dUn, dCallB, dCall, dMethS, dNil, dCons, dB, dNot, dAnd, dOr, dAndV, dOrV, dNotV, dIf, dTup, dLst, dSl, dNone, dSome, dChain, dDisp, dpCons, dpNil, dStar, gdName, gdTup, gdCons, gdNil, dRw, dRwSet, Tau.put, Dl.intD, modD, fdivD, subD, negD, ltD, gtD, geD, leD, i2, eqD_int, neD_int, eqD_bl, neD_bl, D.asT, D.its, isiD, isi2D, D.ty, isN, isNB, Option.bind_some, Option.bind_none, Option.map_some, Option.map_none, List.map_cons, List.map_nil, List.cons_append, List.nil_append, List.append_nil, List.length_cons, List.length_nil, List.getElem?_cons_zero, List.getElem?_cons_succ, List.replicate, List.set_cons_zero, List.set_cons_succ, Nat.sub_self, Nat.reduceAdd, Nat.reduceSub, Nat.add_sub_cancel, if_true, if_false, decide_true, decide_false, Bool.not_true, Bool.not_false, Bool.true_and, Bool.false_and, Bool.or_true, Bool.true_or, Bool.or_false, Bool.false_or, Bool.and_true, Bool.and_false, ite_true, ite_false, reduceIte, Bool.false_eq_true, addD]
      · simp only [fnD, dSeq, dIfS, dRet, dAsg, dPar, dDrop, dNext, dVar, dC, dOp, dUn, dCallB, dCall, dMethS, dNil, dCons, dB, dNot, dAnd, dOr, dAndV, dOrV, dNotV, dIf, dTup, dLst, dSl, dNone, dSome, dChain, dDisp, dpCons, dpNil, dStar, gdName, gdTup, gdCons, gdNil, dRw, dRwSet, Tau.put, Dl.intD, modD, fdivD, subD, negD, ltD, gtD, geD, leD, i2, eqD_int, neD_int, eqD_bl, neD_bl, D.asT, D.its, isiD, isi2D, D.ty, isN, isNB, Option.bind_some, Option.bind_none, Option.map_some, Option.map_none, List.map_cons, List.map_nil, List.cons_append, List.nil_append, List.append_nil, List.length_cons, List.length_nil, List.getElem?_cons_zero, List.getElem?_cons_succ, List.replicate, List.set_cons_zero, List.set_cons_succ, Nat.sub_self, Nat.reduceAdd, Nat.reduceSub, Nat.add_sub_cancel, if_true, if_false, decide_true, decide_false, Bool.not_true, Bool.not_false, Bool.true_and, Bool.false_and, Bool.or_true, Bool.true_or, Bool.or_false, Bool.false_or, Bool.and_true, Bool.and_false, ite_true, ite_false, reduceIte, Bool.false_eq_true, lenD, hl]
      · simp only [fnD, dSeq, dIfS, dRet, dAsg, dPar, dDrop, dNext, dVar, dC, dOp, dUn, dCallB, dCall, dMethS, dNil, dCons, dB, dNot, dAnd, dOr, dAndV, dOrV, dNotV, dIf, dTup, dLst, dSl, dNone, dSome, dChain, dDisp, dpCons, dpNil, dStar, gdName, gdTup, gdCons, gdNil, dRw, dRwSet, Tau.put, Dl.intD, modD, fdivD, subD, negD, ltD, gtD, geD, leD, i2, eqD_int, neD_int, eqD_bl, neD_bl, D.asT, D.its, isiD, isi2D, D.ty, isN, isNB, Option.bind_some, Option.bind_none, Option.map_some, Option.map_none, List.map_cons, List.map_nil, List.cons_append, List.nil_append, List.append_nil, List.length_cons, List.length_nil, List.getElem?_cons_zero, List.getElem?_cons_succ, List.replicate, List.set_cons_zero, List.set_cons_succ, Nat.sub_self, Nat.reduceAdd, Nat.reduceSub, Nat.add_sub_cancel, if_true, if_false, decide_true, decide_false, Bool.not_true, Bool.not_false, Bool.true_and, Bool.false_and, Bool.or_true, Bool.true_or, Bool.or_false, Bool.false_or, Bool.and_true, Bool.and_false, ite_true, ite_false, reduceIte, Bool.false_eq_true, addD, mulD, mulI, h1, h2]
        simp [h1]
    · have hn : a.toNat < ns.length := by omega
      obtain ⟨q, hq⟩ : ∃ q, ns[a.toNat]? = some q := ⟨_, List.getElem?_eq_getElem hn⟩
      have hix : atI ns (a + 1 - 1) = some q := by
        have e : a + 1 - 1 = a := by omega
        unfold atI ixN
        rw [e, if_pos hs', if_pos (by omega)]
        exact hq
      by_cases h18 : (1000000000000000000 : Int) ≤ q
      · refine ⟨q % m, ⟨a + 1, (b * 48271 + q + 11) % 2147483647, q / m, ns⟩, ?_, Int.emod_nonneg _ nz, Int.emod_lt_of_pos _ h1, by show 0 ≤ a + 1; omega⟩
        refine fn_rt (seq_ifF (s1 := ⟨a, b, c, ns⟩) ?_ (seq_nx (ρ1 := [.im .rw, .im (.int m), .un, .un]) (s1 := ⟨a + 1, b, c, ns⟩) ?_ (seq_ifF (s1 := ⟨a + 1, b, c, ns⟩) ?_ ?_)))
        · simp only [fnD, dSeq, dIfS, dRet, dAsg, dPar, dDrop, dNext, dVar, dC, dOp, dUn, dCallB, dCall, dMethS, dNil, dCons, dB, dNot, dAnd, dOr, dAndV, dOrV, dNotV, dIf, dTup, dLst, dSl, dNone, dSome, dChain, dDisp, dpCons, dpNil, dStar, gdName, gdTup, gdCons, gdNil, dRw, dRwSet, Tau.put, Dl.intD, modD, fdivD, subD, negD, ltD, gtD, geD, leD, i2, eqD_int, neD_int, eqD_bl, neD_bl, D.asT, D.its, isiD, isi2D, D.ty, isN, isNB, Option.bind_some, Option.bind_none, Option.map_some, Option.map_none, List.map_cons, List.map_nil, List.cons_append, List.nil_append, List.append_nil, List.length_cons, List.length_nil, List.getElem?_cons_zero, List.getElem?_cons_succ, List.replicate, List.set_cons_zero, List.set_cons_succ, Nat.sub_self, Nat.reduceAdd, Nat.reduceSub, Nat.add_sub_cancel, if_true, if_false, decide_true, decide_false, Bool.not_true, Bool.not_false, Bool.true_and, Bool.false_and, Bool.or_true, Bool.true_or, Bool.or_false, Bool.false_or, Bool.and_true, Bool.and_false, ite_true, ite_false, reduceIte, Bool.false_eq_true, hc]
        · simp only [fnD, dSeq, dIfS, dRet, dAsg, dPar, dDrop, dNext, dVar, dC, dOp, dUn, dCallB, dCall, dMethS, dNil, dCons, dB, dNot, dAnd, dOr, dAndV, dOrV, dNotV, dIf, dTup, dLst, dSl, dNone, dSome, dChain, dDisp, dpCons, dpNil, dStar, gdName, gdTup, gdCons, gdNil, dRw, dRwSet, Tau.put, Dl.intD, modD, fdivD, subD, negD, ltD, gtD, geD, leD, i2, eqD_int, neD_int, eqD_bl, neD_bl, D.asT, D.its, isiD, isi2D, D.ty, isN, isNB, Option.bind_some, Option.bind_none, Option.map_some, Option.map_none, List.map_cons, List.map_nil, List.cons_append, List.nil_append, List.append_nil, List.length_cons, List.length_nil, List.getElem?_cons_zero, List.getElem?_cons_succ, List.replicate, List.set_cons_zero, List.set_cons_succ, Nat.sub_self, Nat.reduceAdd, Nat.reduceSub, Nat.add_sub_cancel, if_true, if_false, decide_true, decide_false, Bool.not_true, Bool.not_false, Bool.true_and, Bool.false_and, Bool.or_true, Bool.true_or, Bool.or_false, Bool.false_or, Bool.and_true, Bool.and_false, ite_true, ite_false, reduceIte, Bool.false_eq_true, addD]
        · simp only [fnD, dSeq, dIfS, dRet, dAsg, dPar, dDrop, dNext, dVar, dC, dOp, dUn, dCallB, dCall, dMethS, dNil, dCons, dB, dNot, dAnd, dOr, dAndV, dOrV, dNotV, dIf, dTup, dLst, dSl, dNone, dSome, dChain, dDisp, dpCons, dpNil, dStar, gdName, gdTup, gdCons, gdNil, dRw, dRwSet, Tau.put, Dl.intD, modD, fdivD, subD, negD, ltD, gtD, geD, leD, i2, eqD_int, neD_int, eqD_bl, neD_bl, D.asT, D.its, isiD, isi2D, D.ty, isN, isNB, Option.bind_some, Option.bind_none, Option.map_some, Option.map_none, List.map_cons, List.map_nil, List.cons_append, List.nil_append, List.append_nil, List.length_cons, List.length_nil, List.getElem?_cons_zero, List.getElem?_cons_succ, List.replicate, List.set_cons_zero, List.set_cons_succ, Nat.sub_self, Nat.reduceAdd, Nat.reduceSub, Nat.add_sub_cancel, if_true, if_false, decide_true, decide_false, Bool.not_true, Bool.not_false, Bool.true_and, Bool.false_and, Bool.or_true, Bool.true_or, Bool.or_false, Bool.false_or, Bool.and_true, Bool.and_false, ite_true, ite_false, reduceIte, Bool.false_eq_true, lenD, hl]
        · simp only [fnD, dSeq, dIfS, dRet, dAsg, dPar, dDrop, dNext, dVar, dC, dOp, dUn, dCallB, dCall, dMethS, dNil, dCons, dB, dNot, dAnd, dOr, dAndV, dOrV, dNotV, dIf, dTup, dLst, dSl, dNone, dSome, dChain, dDisp, dpCons, dpNil, dStar, gdName, gdTup, gdCons, gdNil, dRw, dRwSet, Tau.put, Dl.intD, modD, fdivD, subD, negD, ltD, gtD, geD, leD, i2, eqD_int, neD_int, eqD_bl, neD_bl, D.asT, D.its, isiD, isi2D, D.ty, isN, isNB, Option.bind_some, Option.bind_none, Option.map_some, Option.map_none, List.map_cons, List.map_nil, List.cons_append, List.nil_append, List.append_nil, List.length_cons, List.length_nil, List.getElem?_cons_zero, List.getElem?_cons_succ, List.replicate, List.set_cons_zero, List.set_cons_succ, Nat.sub_self, Nat.reduceAdd, Nat.reduceSub, Nat.add_sub_cancel, if_true, if_false, decide_true, decide_false, Bool.not_true, Bool.not_false, Bool.true_and, Bool.false_and, Bool.or_true, Bool.true_or, Bool.or_false, Bool.false_or, Bool.and_true, Bool.and_false, ite_true, ite_false, reduceIte, Bool.false_eq_true, addD, mulD, mulI, h1, h2, ixD, hix, powD]
          simp [h18, h1, h2]
      · refine ⟨q % m, ⟨a + 1, (b * 48271 + q + 11) % 2147483647, c, ns⟩, ?_, Int.emod_nonneg _ nz, Int.emod_lt_of_pos _ h1, by show 0 ≤ a + 1; omega⟩
        refine fn_rt (seq_ifF (s1 := ⟨a, b, c, ns⟩) ?_ (seq_nx (ρ1 := [.im .rw, .im (.int m), .un, .un]) (s1 := ⟨a + 1, b, c, ns⟩) ?_ (seq_ifF (s1 := ⟨a + 1, b, c, ns⟩) ?_ ?_)))
        · simp only [fnD, dSeq, dIfS, dRet, dAsg, dPar, dDrop, dNext, dVar, dC, dOp, dUn, dCallB, dCall, dMethS, dNil, dCons, dB, dNot, dAnd, dOr, dAndV, dOrV, dNotV, dIf, dTup, dLst, dSl, dNone, dSome, dChain, dDisp, dpCons, dpNil, dStar, gdName, gdTup, gdCons, gdNil, dRw, dRwSet, Tau.put, Dl.intD, modD, fdivD, subD, negD, ltD, gtD, geD, leD, i2, eqD_int, neD_int, eqD_bl, neD_bl, D.asT, D.its, isiD, isi2D, D.ty, isN, isNB, Option.bind_some, Option.bind_none, Option.map_some, Option.map_none, List.map_cons, List.map_nil, List.cons_append, List.nil_append, List.append_nil, List.length_cons, List.length_nil, List.getElem?_cons_zero, List.getElem?_cons_succ, List.replicate, List.set_cons_zero, List.set_cons_succ, Nat.sub_self, Nat.reduceAdd, Nat.reduceSub, Nat.add_sub_cancel, if_true, if_false, decide_true, decide_false, Bool.not_true, Bool.not_false, Bool.true_and, Bool.false_and, Bool.or_true, Bool.true_or, Bool.or_false, Bool.false_or, Bool.and_true, Bool.and_false, ite_true, ite_false, reduceIte, Bool.false_eq_true, hc]
        · simp only [fnD, dSeq, dIfS, dRet, dAsg, dPar, dDrop, dNext, dVar, dC, dOp, dUn, dCallB, dCall, dMethS, dNil, dCons, dB, dNot, dAnd, dOr, dAndV, dOrV, dNotV, dIf, dTup, dLst, dSl, dNone, dSome, dChain, dDisp, dpCons, dpNil, dStar, gdName, gdTup, gdCons, gdNil, dRw, dRwSet, Tau.put, Dl.intD, modD, fdivD, subD, negD, ltD, gtD, geD, leD, i2, eqD_int, neD_int, eqD_bl, neD_bl, D.asT, D.its, isiD, isi2D, D.ty, isN, isNB, Option.bind_some, Option.bind_none, Option.map_some, Option.map_none, List.map_cons, List.map_nil, List.cons_append, List.nil_append, List.append_nil, List.length_cons, List.length_nil, List.getElem?_cons_zero, List.getElem?_cons_succ, List.replicate, List.set_cons_zero, List.set_cons_succ, Nat.sub_self, Nat.reduceAdd, Nat.reduceSub, Nat.add_sub_cancel, if_true, if_false, decide_true, decide_false, Bool.not_true, Bool.not_false, Bool.true_and, Bool.false_and, Bool.or_true, Bool.true_or, Bool.or_false, Bool.false_or, Bool.and_true, Bool.and_false, ite_true, ite_false, reduceIte, Bool.false_eq_true, addD]
        · simp only [fnD, dSeq, dIfS, dRet, dAsg, dPar, dDrop, dNext, dVar, dC, dOp, dUn, dCallB, dCall, dMethS, dNil, dCons, dB, dNot, dAnd, dOr, dAndV, dOrV, dNotV, dIf, dTup, dLst, dSl, dNone, dSome, dChain, dDisp, dpCons, dpNil, dStar, gdName, gdTup, gdCons, gdNil, dRw, dRwSet, Tau.put, Dl.intD, modD, fdivD, subD, negD, ltD, gtD, geD, leD, i2, eqD_int, neD_int, eqD_bl, neD_bl, D.asT, D.its, isiD, isi2D, D.ty, isN, isNB, Option.bind_some, Option.bind_none, Option.map_some, Option.map_none, List.map_cons, List.map_nil, List.cons_append, List.nil_append, List.append_nil, List.length_cons, List.length_nil, List.getElem?_cons_zero, List.getElem?_cons_succ, List.replicate, List.set_cons_zero, List.set_cons_succ, Nat.sub_self, Nat.reduceAdd, Nat.reduceSub, Nat.add_sub_cancel, if_true, if_false, decide_true, decide_false, Bool.not_true, Bool.not_false, Bool.true_and, Bool.false_and, Bool.or_true, Bool.true_or, Bool.or_false, Bool.false_or, Bool.and_true, Bool.and_false, ite_true, ite_false, reduceIte, Bool.false_eq_true, lenD, hl]
        · simp only [fnD, dSeq, dIfS, dRet, dAsg, dPar, dDrop, dNext, dVar, dC, dOp, dUn, dCallB, dCall, dMethS, dNil, dCons, dB, dNot, dAnd, dOr, dAndV, dOrV, dNotV, dIf, dTup, dLst, dSl, dNone, dSome, dChain, dDisp, dpCons, dpNil, dStar, gdName, gdTup, gdCons, gdNil, dRw, dRwSet, Tau.put, Dl.intD, modD, fdivD, subD, negD, ltD, gtD, geD, leD, i2, eqD_int, neD_int, eqD_bl, neD_bl, D.asT, D.its, isiD, isi2D, D.ty, isN, isNB, Option.bind_some, Option.bind_none, Option.map_some, Option.map_none, List.map_cons, List.map_nil, List.cons_append, List.nil_append, List.append_nil, List.length_cons, List.length_nil, List.getElem?_cons_zero, List.getElem?_cons_succ, List.replicate, List.set_cons_zero, List.set_cons_succ, Nat.sub_self, Nat.reduceAdd, Nat.reduceSub, Nat.add_sub_cancel, if_true, if_false, decide_true, decide_false, Bool.not_true, Bool.not_false, Bool.true_and, Bool.false_and, Bool.or_true, Bool.true_or, Bool.or_false, Bool.false_or, Bool.and_true, Bool.and_false, ite_true, ite_false, reduceIte, Bool.false_eq_true, addD, mulD, mulI, h1, h2, ixD, hix, powD]
          simp [h18, h1, h2]
/-- a pick from a list -/
theorem pick_ok (s : Tau) (hs : 0 ≤ s.a) (xs : List D) (h0 : xs ≠ []) (hl : xs.length ≤ 1000000) : ∃ d s', f__law_pick [.rw, .lst xs] s = some ((d, false), s') ∧ d ∈ xs ∧ 0 ≤ s'.a := by
  have hp : 0 < xs.length := List.length_pos_iff.mpr h0
  obtain ⟨i, s', h1, h2, h3, h4⟩ := taken_ok s hs xs.length (by omega) (by omega)
  have hn : i.toNat < xs.length := by omega
  refine ⟨xs[i.toNat], s', ?_, List.getElem_mem _, h4⟩
  refine fn_rt (ret_of ?_)
  have hix : atI xs i = some xs[i.toNat] := by
    unfold atI ixN
    rw [if_pos h2, if_pos (by omega)]
    exact List.getElem?_eq_getElem hn
  simp only [fnD, dSeq, dIfS, dRet, dAsg, dPar, dDrop, dNext, dVar, dC, dOp, dUn, dCallB, dCall, dMethS, dNil, dCons, dB, dNot, dAnd, dOr, dAndV, dOrV, dNotV, dIf, dTup, dLst, dSl, dNone, dSome, dChain, dDisp, dpCons, dpNil, dStar, gdName, gdTup, gdCons, gdNil, dRw, dRwSet, Tau.put, Dl.intD, modD, fdivD, subD, negD, ltD, gtD, geD, leD, i2, eqD_int, neD_int, eqD_bl, neD_bl, D.asT, D.its, isiD, isi2D, D.ty, isN, isNB, Option.bind_some, Option.bind_none, Option.map_some, Option.map_none, List.map_cons, List.map_nil, List.cons_append, List.nil_append, List.append_nil, List.length_cons, List.length_nil, List.getElem?_cons_zero, List.getElem?_cons_succ, List.replicate, List.set_cons_zero, List.set_cons_succ, Nat.sub_self, Nat.reduceAdd, Nat.reduceSub, Nat.add_sub_cancel, if_true, if_false, decide_true, decide_false, Bool.not_true, Bool.not_false, Bool.true_and, Bool.false_and, Bool.or_true, Bool.true_or, Bool.or_false, Bool.false_or, Bool.and_true, Bool.and_false, ite_true, ite_false, reduceIte, Bool.false_eq_true, lenD, h1, ixD, hix]


/-! alike -/
theorem ty_conv {d : D} {p : PyData} (h : d.conv = some p) : d.ty = some (match p with | .none => "NoneType" | .bool _ => "bool" | .int _ => "int" | .str _ => "str" | .tuple _ => "tuple" | .list _ => "list" | .dict _ => "dict") := by
  cases d with
  | tup xs => obtain ⟨ps, _, rfl⟩ := map_some_of (show (convL xs).map PyData.tuple = some p from h); rfl
  | ktp xs => obtain ⟨ps, _, rfl⟩ := map_some_of (show (convL xs).map PyData.tuple = some p from h); rfl
  | lst xs => obtain ⟨ps, _, rfl⟩ := map_some_of (show (convL xs).map PyData.list = some p from h); rfl
  | _ => first | (cases h; rfl) | cases h
theorem its_conv {d : D} {ps : List PyData} (h : d.conv = some (.tuple ps) ∨ d.conv = some (.list ps)) : ∃ xs, d.its = some xs ∧ convL xs = some ps ∧ lenD [d] = some (.int ps.length) ∧ ∀ i : Nat, ixD d (.int i) = xs[i]? := by
  have key : ∀ xs : List D, convL xs = some ps → ∀ i : Nat, atI xs (i : Int) = xs[i]? := fun xs _ i => by
    unfold atI ixN
    rw [if_pos (by omega)]
    by_cases z : (i : Int) < xs.length
    · rw [if_pos z]; rfl
    · rw [if_neg z, List.getElem?_eq_none (by omega)]; rfl
  cases d with
  | tup xs =>
    obtain ⟨qs, h1, h2⟩ : ∃ qs, convL xs = some qs ∧ PyData.tuple qs = .tuple ps := by
      rcases h with h | h
      · obtain ⟨qs, h1, h2⟩ := map_some_of (show (convL xs).map PyData.tuple = some (.tuple ps) from h); exact ⟨qs, h1, h2⟩
      · obtain ⟨qs, h1, h2⟩ := map_some_of (show (convL xs).map PyData.tuple = some (.list ps) from h); cases h2
    cases h2
    exact ⟨xs, rfl, h1, congrArg (fun n : Nat => some (D.int n)) (convL_len h1), key xs h1⟩
  | ktp xs =>
    obtain ⟨qs, h1, h2⟩ : ∃ qs, convL xs = some qs ∧ PyData.tuple qs = .tuple ps := by
      rcases h with h | h
      · obtain ⟨qs, h1, h2⟩ := map_some_of (show (convL xs).map PyData.tuple = some (.tuple ps) from h); exact ⟨qs, h1, h2⟩
      · obtain ⟨qs, h1, h2⟩ := map_some_of (show (convL xs).map PyData.tuple = some (.list ps) from h); cases h2
    cases h2
    exact ⟨xs, rfl, h1, congrArg (fun n : Nat => some (D.int n)) (convL_len h1), key xs h1⟩
  | lst xs =>
    obtain ⟨qs, h1, h2⟩ : ∃ qs, convL xs = some qs ∧ PyData.list qs = .list ps := by
      rcases h with h | h
      · obtain ⟨qs, h1, h2⟩ := map_some_of (show (convL xs).map PyData.list = some (.tuple ps) from h); cases h2
      · obtain ⟨qs, h1, h2⟩ := map_some_of (show (convL xs).map PyData.list = some (.list ps) from h); exact ⟨qs, h1, h2⟩
    cases h2
    exact ⟨xs, rfl, h1, congrArg (fun n : Nat => some (D.int n)) (convL_len h1), key xs h1⟩
  | _ => rcases h with h | h <;> first | cases h | (exact absurd h (by intro z; cases z))
/-- of sizes that are walked -/
inductive Sm : PyData → Prop
  | none : Sm .none
  | bool (b : Bool) : Sm (.bool b)
  | int (i : Int) : Sm (.int i)
  | str (x : Str) : Sm (.str x)
  | tup {ps : List PyData} : ps.length ≤ 1000000 → (∀ p ∈ ps, Sm p) → Sm (.tuple ps)
  | lst {ps : List PyData} : ps.length ≤ 1000000 → (∀ p ∈ ps, Sm p) → Sm (.list ps)
theorem seq_alike {n : Nat} {x y : D} {ps : List PyData} {s : Tau} (ih : ∀ (x y : D) (p : PyData) (s : Tau), x.conv = some p → y.conv = some p → p.canLay0 = true → p.depth < n → Sm p → f__law_alike n [x, y] s = some ((.bl true, false), s))
    (hx : x.conv = some (.tuple ps) ∧ y.conv = some (.tuple ps) ∨ x.conv = some (.list ps) ∧ y.conv = some (.list ps)) (hl : PyData.canLayAll0 ps = true) (hd : PyData.depthAll ps + 1 < n + 1) (hn : ps.length ≤ 1000000) (hs : ∀ p ∈ ps, Sm p) : f__law_alike (n + 1) [x, y] s = some ((.bl true, false), s) := by
  obtain ⟨xs, _, cx, lx, gx⟩ := its_conv (d := x) (ps := ps) (hx.imp (·.1) (·.1))
  obtain ⟨ys, _, cy, ly, gy⟩ := its_conv (d := y) (ps := ps) (hx.imp (·.2) (·.2))
  have lc : dLc (dRng1 (dCons (dCallB lenD (dCons (dVar 1) dNil)) dNil)) (gdName 2) (dNot (dB (dCall (f__law_alike n) (dCons (dOp ixD (dVar 0) (dVar 2)) (dCons (dOp ixD (dVar 1) (dVar 2)) dNil))))) (dVar 2) [2] [.im x, .im y, .un] s = some (.lst [], s) := by
    have e := lc_map (g := gdName 2) (bt := dNot (dB (dCall (f__law_alike n) (dCons (dOp ixD (dVar 0) (dVar 2)) (dCons (dOp ixD (dVar 1) (dVar 2)) dNil))))) (de := dVar 2) (di := dRng1 (dCons (dCallB lenD (dCons (dVar 1) dNil)) dNil)) (vs := [2]) (ρ := [.im x, .im y, .un]) (s := s) (fun i : Nat => D.int i) (fun _ => false) (fun i : Nat => D.int i) (List.range ps.length)
      (rng1_of (one_of (callB_of (one_of rfl) ly)) hn)
      (by rw [List.length_range]; exact hn)
      (fun i hi => by
        have hi := List.mem_range.mp hi
        obtain ⟨p, hp⟩ : ∃ p, ps[i]? = some p := ⟨_, List.getElem?_eq_getElem hi⟩
        obtain ⟨x1, hx1, hxc⟩ := convL_get cx hp
        obtain ⟨y1, hy1, hyc⟩ := convL_get cy hp
        have e1 := ih x1 y1 p s hxc hyc (canLay_get hl hp) (Nat.lt_of_le_of_lt (depthAll_get (ps := ps) (i := i) hp) (Nat.lt_of_succ_lt_succ hd)) (hs p (List.mem_of_getElem? hp))
        refine ⟨[.im x, .im y, .im (.int i)], rfl, ?_, fun z => by cases z⟩
        have g1 := gx i
        have g2 := gy i
        rw [hx1] at g1
        rw [hy1] at g2
        simp only [fnD, dSeq, dIfS, dRet, dAsg, dPar, dDrop, dNext, dVar, dC, dOp, dUn, dCallB, dCall, dMethS, dNil, dCons, dB, dNot, dAnd, dOr, dAndV, dOrV, dNotV, dIf, dTup, dLst, dSl, dNone, dSome, dChain, dDisp, dpCons, dpNil, dStar, gdName, gdTup, gdCons, gdNil, dRw, dRwSet, Tau.put, Dl.intD, modD, fdivD, subD, negD, ltD, gtD, geD, leD, i2, eqD_int, neD_int, eqD_bl, neD_bl, D.asT, D.its, isiD, isi2D, D.ty, isN, isNB, Option.bind_some, Option.bind_none, Option.map_some, Option.map_none, List.map_cons, List.map_nil, List.cons_append, List.nil_append, List.append_nil, List.length_cons, List.length_nil, List.getElem?_cons_zero, List.getElem?_cons_succ, List.replicate, List.set_cons_zero, List.set_cons_succ, Nat.sub_self, Nat.reduceAdd, Nat.reduceSub, Nat.add_sub_cancel, if_true, if_false, decide_true, decide_false, Bool.not_true, Bool.not_false, Bool.true_and, Bool.false_and, Bool.or_true, Bool.true_or, Bool.or_false, Bool.false_or, Bool.and_true, Bool.and_false, ite_true, ite_false, reduceIte, Bool.false_eq_true, g1, g2, e1])
    rw [e, List.filter_eq_nil_iff.mpr (fun _ _ => by decide)]; rfl
  rcases hx with ⟨h1, h2⟩ | ⟨h1, h2⟩
  · have t1 := ty_conv h1
    have t2 := ty_conv h2
    refine fn_rt (seq_ifT (s1 := s) ?_ (seq_ifF (s1 := s) ?_ (seq_ifF (s1 := s) ?_ (ret_of ?_))))
    · simp only [dOp, dUn, dB, dVar, isi2D, List.map_cons, List.map_nil, List.cons_append, List.nil_append, List.getElem?_cons_succ, List.getElem?_cons_zero, Option.bind_some, Option.map_some, t2]; rfl
    · simp only [dOr, dNot, dOp, dUn, dB, dVar, isiD, isi2D, List.map_cons, List.map_nil, List.cons_append, List.nil_append, List.getElem?_cons_succ, List.getElem?_cons_zero, Option.bind_some, Option.map_some, t1, t2]; rfl
    · simp only [fnD, dSeq, dIfS, dRet, dAsg, dPar, dDrop, dNext, dVar, dC, dOp, dUn, dCallB, dCall, dMethS, dNil, dCons, dB, dNot, dAnd, dOr, dAndV, dOrV, dNotV, dIf, dTup, dLst, dSl, dNone, dSome, dChain, dDisp, dpCons, dpNil, dStar, gdName, gdTup, gdCons, gdNil, dRw, dRwSet, Tau.put, Dl.intD, modD, fdivD, subD, negD, ltD, gtD, geD, leD, i2, eqD_int, neD_int, eqD_bl, neD_bl, D.asT, D.its, isiD, isi2D, D.ty, isN, isNB, Option.bind_some, Option.bind_none, Option.map_some, Option.map_none, List.map_cons, List.map_nil, List.cons_append, List.nil_append, List.append_nil, List.length_cons, List.length_nil, List.getElem?_cons_zero, List.getElem?_cons_succ, List.replicate, List.set_cons_zero, List.set_cons_succ, Nat.sub_self, Nat.reduceAdd, Nat.reduceSub, Nat.add_sub_cancel, if_true, if_false, decide_true, decide_false, Bool.not_true, Bool.not_false, Bool.true_and, Bool.false_and, Bool.or_true, Bool.true_or, Bool.or_false, Bool.false_or, Bool.and_true, Bool.and_false, ite_true, ite_false, reduceIte, Bool.false_eq_true, lx, ly]; simp
    · exact op_of lc rfl rfl
  · have t1 := ty_conv h1
    have t2 := ty_conv h2
    refine fn_rt (seq_ifT (s1 := s) ?_ (seq_ifF (s1 := s) ?_ (seq_ifF (s1 := s) ?_ (ret_of ?_))))
    · simp only [dOp, dUn, dB, dVar, isi2D, List.map_cons, List.map_nil, List.cons_append, List.nil_append, List.getElem?_cons_succ, List.getElem?_cons_zero, Option.bind_some, Option.map_some, t2]; rfl
    · simp only [dOr, dNot, dOp, dUn, dB, dVar, isiD, isi2D, List.map_cons, List.map_nil, List.cons_append, List.nil_append, List.getElem?_cons_succ, List.getElem?_cons_zero, Option.bind_some, Option.map_some, t1, t2]; rfl
    · simp only [fnD, dSeq, dIfS, dRet, dAsg, dPar, dDrop, dNext, dVar, dC, dOp, dUn, dCallB, dCall, dMethS, dNil, dCons, dB, dNot, dAnd, dOr, dAndV, dOrV, dNotV, dIf, dTup, dLst, dSl, dNone, dSome, dChain, dDisp, dpCons, dpNil, dStar, gdName, gdTup, gdCons, gdNil, dRw, dRwSet, Tau.put, Dl.intD, modD, fdivD, subD, negD, ltD, gtD, geD, leD, i2, eqD_int, neD_int, eqD_bl, neD_bl, D.asT, D.its, isiD, isi2D, D.ty, isN, isNB, Option.bind_some, Option.bind_none, Option.map_some, Option.map_none, List.map_cons, List.map_nil, List.cons_append, List.nil_append, List.append_nil, List.length_cons, List.length_nil, List.getElem?_cons_zero, List.getElem?_cons_succ, List.replicate, List.set_cons_zero, List.set_cons_succ, Nat.sub_self, Nat.reduceAdd, Nat.reduceSub, Nat.add_sub_cancel, if_true, if_false, decide_true, decide_false, Bool.not_true, Bool.not_false, Bool.true_and, Bool.false_and, Bool.or_true, Bool.true_or, Bool.or_false, Bool.false_or, Bool.and_true, Bool.and_false, ite_true, ite_false, reduceIte, Bool.false_eq_true, lx, ly]; simp
    · exact op_of lc rfl rfl
def scl : PyData → D
  | .none => .non
  | .bool b => .bl b
  | .int i => .int i
  | .str z => .str z
  | _ => .rw
def isScl : PyData → Bool
  | .none => true
  | .bool _ => true
  | .int _ => true
  | .str _ => true
  | _ => false
theorem scl_eq {d : D} {p : PyData} (h : d.conv = some p) (hp : isScl p = true) : d = scl p := by
  cases d with
  | tup xs => obtain ⟨ps, _, rfl⟩ := map_some_of (show (convL xs).map PyData.tuple = some p from h); cases hp
  | ktp xs => obtain ⟨ps, _, rfl⟩ := map_some_of (show (convL xs).map PyData.tuple = some p from h); cases hp
  | lst xs => obtain ⟨ps, _, rfl⟩ := map_some_of (show (convL xs).map PyData.list = some p from h); cases hp
  | _ => first | (cases h; rfl) | cases h
theorem sc_alike {n : Nat} {x y : D} {p : PyData} {s : Tau} (hx : x.conv = some p) (hy : y.conv = some p) (hl : p.canLay0 = true) (hp : isScl p = true) : f__law_alike (n + 1) [x, y] s = some ((.bl true, false), s) := by
  have hsh : SeqAt.shaped p = true := by
    unfold SeqAt.shaped
    rw [hl]
    cases p <;> first | rfl | cases hp
  have e := eqD_refl hx hy hsh
  have ex := scl_eq hx hp
  have ey := scl_eq hy hp
  subst ex
  subst ey
  cases p with
  | none => exact fn_rt (seq_ifF (s1 := s) rfl (seq_ifT (s1 := s) rfl (ret_of (andVT_of (op_of (x := D.non) (y := D.non) rfl rfl e) rfl))))
  | str z => exact fn_rt (seq_ifF (s1 := s) rfl (seq_ifT (s1 := s) rfl (ret_of (andVT_of (op_of (x := D.str z) (y := D.str z) rfl rfl e) rfl))))
  | int z => exact fn_rt (seq_ifF (s1 := s) rfl (seq_ifF (s1 := s) rfl (ret_of (andVT_of rfl (andVT_of rfl (op_of (x := D.int z) (y := D.int z) rfl rfl e))))))
  | bool z => exact fn_rt (seq_ifF (s1 := s) rfl (seq_ifF (s1 := s) rfl (ret_of (andVT_of rfl (andVT_of rfl (op_of (x := D.bl z) (y := D.bl z) rfl rfl e))))))
  | _ => cases hp
theorem alike_ok : ∀ (n : Nat) (x y : D) (p : PyData) (s : Tau), x.conv = some p → y.conv = some p → p.canLay0 = true → p.depth < n → Sm p → f__law_alike n [x, y] s = some ((.bl true, false), s)
  | 0, _, _, _, _, _, _, _, h, _ => absurd h (Nat.not_lt_zero _)
  | n + 1, x, y, p, s, hx, hy, hl, hd, hs => by
    cases hs with
    | tup h1 h2 => exact seq_alike (alike_ok n) (.inl ⟨hx, hy⟩) hl hd h1 h2
    | lst h1 h2 => exact seq_alike (alike_ok n) (.inr ⟨hx, hy⟩) hl hd h1 h2
    | _ => exact sc_alike hx hy hl rfl
end Rk09
end
section
set_option Elab.async false
set_option linter.all false
set_option maxRecDepth 100000
set_option maxHeartbeats 4000000
open PySem L2 Dl PyProof.Rows
namespace Rk09
theorem said_ok (b : Bool) (s : Tau) : f_said [.bl b] s = some ((vD b, false), s) := by cases b <;> kernel_rfl
theorem word_ok (b : Bool) (s : Tau) : f__law_word [gD b] s = some ((vD b, false), s) := by cases b <;> kernel_rfl
theorem lturned_ok (b : Bool) (s : Tau) : f__law_turned [gD b] s = some ((gD (!b), false), s) := by cases b <;> kernel_rfl
theorem turned_ok (b : Bool) (s : Tau) : f_turned [vD b] s = some ((vD (!b), false), s) := by cases b <;> kernel_rfl
theorem voice_ok (b : Bool) (s : Tau) : f_is_voice [vD b] s = some ((.bl true, false), s) := by cases b <;> kernel_rfl
theorem voices_ok {bs : List Bool} (hl : bs.length ≤ 1000000) (s : Tau) : f__law_voices [.str (tx bs)] s = some ((row bs, false), s) :=
  fn_rt (ret_of (callB_of (one_of (lc_all gD vD bs ((itS_of rfl).trans (by rw [tx_ch])) hl fun b _ => ⟨_, rfl, call_of (one_of rfl) (word_ok b s)⟩)) rfl))
theorem flip_ok {bs : List Bool} {i : Nat} {b : Bool} (hl : bs.length ≤ 1000) (h : bs[i]? = some b) (s : Tau) : f__law_flip [.str (tx bs), .int i] s = some ((.str (tx (fl bs i)), false), s) := by
  have hi := (List.getElem?_eq_some_iff.mp h).1
  refine fn_rt (ret_of (op_of (x := .str (tx (bs.take i ++ [!b]))) (y := .str (tx (bs.drop (i + 1)))) (op_of (x := .str (tx (bs.take i))) (y := .str (tx [!b])) (sl_of (s2 := s) rfl rfl (some_of rfl) ((sl_tx (by omega) _ _).trans (by rw [cut_to]))) (call_of (one_of (op_of rfl rfl (ix_tx (by omega) ((at_nat bs i).trans h)))) (lturned_ok b s)) (add_tx ?_)) (sl_of (s2 := s) rfl (some_of (op_of rfl rfl rfl)) rfl ((sl_tx (by omega) _ _).trans ?_)) ((add_tx ?_).trans ?_)))
  · rw [List.length_take]; show min i bs.length + 1 ≤ 1000000; omega
  · show some (D.str (tx (cutL bs (some ((i : Int) + 1)) none))) = _
    rw [show ((i : Int) + 1) = ((i + 1 : Nat) : Int) from rfl, cut_from]
  · rw [List.length_append, List.length_take, List.length_drop]; show min i bs.length + 1 + (bs.length - (i + 1)) ≤ 1000000; omega
  · rw [List.append_assoc, List.singleton_append, fl_cut h]
theorem turned_at_ok {bs : List Bool} {i : Nat} {b : Bool} (hl : bs.length ≤ 1000) (h : bs[i]? = some b) (s : Tau) : f_turned_at [row bs, .int i] s = some ((row (fl bs i), false), s) := by
  have hi := (List.getElem?_eq_some_iff.mp h).1
  have e : (bs.take i).map vD ++ (vD (!b) :: ((bs.drop (i + 1)).map vD ++ [])) = (fl bs i).map vD := by
    rw [List.append_nil, ← fl_cut h, List.map_append, List.map_cons]
  have key := star_of (ρ := [.im (row bs), .im (.int i)]) (da := dSl slD (dVar 0) dNone (dSome (dVar 1))) (ar := dCons (dCall f_turned (dCons (dOp ixD (dVar 0) (dVar 1)) dNil)) (dStar (dSl slD (dVar 0) (dSome (dOp addD (dVar 1) (dC (.int 1)))) dNone) dNil))
    (x := .ktp ((bs.take i).map vD)) (s := s) (sl_of (s2 := s) rfl rfl (some_of rfl) ((sl_row bs _ _).trans (by rw [cut_to]))) rfl
    (cons_of (call_of (one_of (op_of rfl rfl (ix_row ((at_nat bs i).trans h)))) (turned_ok b s)) (star_of (x := .ktp ((bs.drop (i + 1)).map vD)) (sl_of (s2 := s) rfl (some_of (op_of rfl rfl rfl)) rfl ((sl_row bs _ _).trans (by
      show some (D.ktp ((cutL bs (some ((i : Int) + 1)) none).map vD)) = _
      rw [show ((i : Int) + 1) = ((i + 1 : Nat) : Int) from rfl, cut_from]))) rfl rfl))
  rw [e] at key
  exact fn_rt (ret_of (tup_of key (by rw [List.length_map, fl_len]; omega)))
theorem way_ok : ∀ i : Nat, i < 13 → ∀ s : Tau, f_need_way [.str (wy i)] s = some ((.non, false), s)
  | 0, _, s | 1, _, s | 2, _, s | 3, _, s | 4, _, s | 5, _, s | 6, _, s | 7, _, s | 8, _, s | 9, _, s | 10, _, s | 11, _, s | 12, _, s => by kernel_rfl
  | n + 13, h, _ => absurd h (by omega)
theorem need_row_ok {bs : List Bool} (h0 : bs ≠ []) (hl : bs.length ≤ 12) (s : Tau) : f_need_row [row bs] s = some ((.non, false), s) := by
  have hp : 0 < bs.length := List.length_pos_iff.mpr h0
  have hlen : dCallB lenD (dCons (dVar 0) dNil) [.im (row bs), .un] s = some (.int bs.length, s) := callB_of (one_of rfl) (len_row bs)
  obtain ⟨ρ2, s2, h2, h3, rfl⟩ := for_nx (it := dRng1 (dCons (dCallB lenD (dCons (dVar 0) dNil)) dNil)) (g := gdName 1) (b := dIfS (dNot (dB (dCall f_is_voice (dCons (dOp ixD (dVar 0) (dVar 1)) dNil)))) dNever dNext) (s1 := s) (fun t => t = s) (fun ρ => ∃ z, ρ = [.im (row bs), z]) (rng1_of (one_of hlen) (by omega)) ⟨_, rfl⟩ rfl (fun x hx ρ t hj ht => by
    obtain ⟨i, hi, rfl⟩ := List.mem_map.mp hx
    have hi := List.mem_range.mp hi
    obtain ⟨z, rfl⟩ := hj
    obtain ⟨b, hb⟩ : ∃ b, bs[i]? = some b := ⟨_, List.getElem?_eq_getElem hi⟩
    exact ⟨_, _, t, rfl, ifF (Dl.not_of (b_of (call_of (one_of (op_of rfl rfl (ix_row ((at_nat bs i).trans hb)))) (voice_ok b t)))) rfl, ⟨_, rfl⟩, ht⟩)
  refine fn_nx (seq_ifF (s1 := s2) (orF_of (s1 := s2) rfl (Dl.not_of (b := true) (b_of ?_))) h2)
  have := chain_val (f := leD) (g := leD) (da := dC (.int 1)) (db := dCallB lenD (dCons (dVar 0) dNil)) (dc := dC c_MOST_ROW) (ρ := [.im (row bs), .un]) (b := decide ((1 : Int) ≤ bs.length)) (c := decide ((bs.length : Int) ≤ 12)) (s1 := s2) rfl hlen rfl rfl rfl
  exact this.trans (by rw [decide_eq_true (by omega), decide_eq_true (by omega)]; rfl)
theorem both_ok {i : Nat} (hi : i < 13) {bs : List Bool} (h0 : bs ≠ []) (hl : bs.length ≤ 12) (s : Tau) : f_need_both [.str (wy i), row bs] s = some ((.non, false), s) :=
  fn_nx (seq_nx (drop_of (call_of (one_of rfl) (way_ok i hi s))) (drop_of (call_of (one_of rfl) (need_row_ok h0 hl s))))
theorem joined_ok {bs : List Bool} (hl : bs.length ≤ 1000) (s : Tau) : f_joined [row bs] s = some ((.tup ((jn bs).map vD), false), s) := by
  have key := lc_map (g := gdTup 2 (gdCons (gdName 1) (gdCons (gdName 2) gdNil))) (di := dEnT (dCons (dVar 0) dNil)) (bt := dOr (dB (dOp eqD (dVar 1) (dC (.int 0)))) (dB (dOp neD (dVar 2) (dOp ixD (dVar 0) (dOp subD (dVar 1) (dC (.int 1))))))) (de := dVar 2) (vs := [1, 2]) (ρ := [.im (row bs), .un, .un]) (s := s)
    (fun z : Bool × Nat => D.ktp [.int (z.2 : Nat), vD z.1]) (fun z => decide (z.2 = 0) || !(z.1 == (bs[z.2 - 1]?.getD true))) (fun z => vD z.1) bs.zipIdx ((enT_of (one_of rfl) rfl).trans (by rw [enumL_zip])) (by rw [List.length_zipIdx]; omega) (fun z hz => by
      obtain ⟨b, i⟩ := z
      refine ⟨_, rfl, or_val (b_of ((op_of rfl rfl (eqD_int _ _)).trans ?_)) (fun hz => ?_), fun _ => rfl⟩
      · show some (D.bl ((i : Int) == 0), s) = some (D.bl (decide (i = 0)), s)
        by_cases e : i = 0
        · subst e; rfl
        · rw [decide_eq_false e, beq_eq_false_iff_ne.mpr (show (i : Int) ≠ 0 by omega)]
      · have ne : i ≠ 0 := of_decide_eq_false hz
        have hi : i < 0 + bs.length := (List.mem_zipIdx ‹_›).2.1
        obtain ⟨c, hc⟩ : ∃ c, bs[i - 1]? = some c := ⟨_, List.getElem?_eq_getElem (by omega)⟩
        refine b_of (op_of (y := vD c) rfl (op_of rfl (op_of rfl rfl rfl) (ix_row ?_)) ((ne_v b c).trans ?_))
        · show atI bs ((i : Int) - 1) = _
          rw [show ((i : Int) - 1) = ((i - 1 : Nat) : Int) by omega, at_nat, hc]
        · show _ = some (D.bl (!(b == (bs[i - 1]?.getD true))))
          rw [hc]; rfl)
  refine fn_rt (ret_of (callB_of (xs := [.lst ((jn bs).map vD)]) (one_of (key.trans ?_)) rfl))
  rw [← jn_zip bs, List.map_map]; rfl
end Rk09
end
section
set_option Elab.async false
set_option linter.all false
set_option maxRecDepth 100000
set_option maxHeartbeats 4000000
open PySem L2 Dl PyProof.Rows
namespace Rk09
section
variable {bs : List Bool} (h0 : bs ≠ []) (s : Tau)
include h0
theorem most_ok : ∀ i : Nat, 8 ≤ i → i < 12 → f_most_of [.str (wy i), row bs] s = some ((vD (an i bs), false), s) := by
  have hp : ∀ w : D, dPar 2 3 (dCons (dOp countD (dVar 1) (dC c_ALLOW)) (dCons (dOp countD (dVar 1) (dC c_DENY)) dNil)) [.im w, .im (row bs), .un, .un] s = some (.nx [.im w, .im (row bs), .im (.int (bs.count true : Nat)), .im (.int (bs.count false : Nat))], s) := fun w =>
    par_of (cons_of (op_of rfl rfl (count_row bs true)) (one_of (op_of rfl rfl (count_row bs false))))
  by_cases h : bs.count true = bs.count false
  · have hif : ∀ w : D, dB (dOp neD (dVar 2) (dVar 3)) [.im w, .im (row bs), .im (.int (bs.count true : Nat)), .im (.int (bs.count false : Nat))] s = some (false, s) := fun w => by
      rw [h]; exact b_of (op_of rfl rfl (ne_int_self _))
    intro i h1 h2
    match i, h1, h2 with
    | 8, _, _ => rw [show an 8 bs = true from mo_eq h true]; exact fn_rt (sN (hp _) (sF (hif _) (sF (by kernel_rfl) (ret_of (iT (by kernel_rfl) rfl)))))
    | 9, _, _ => rw [show an 9 bs = false from mo_eq h false]; exact fn_rt (sN (hp _) (sF (hif _) (sF (by kernel_rfl) (ret_of (iF (by kernel_rfl) rfl)))))
    | 10, _, _ => rw [show an 10 bs = hd bs from mo_eq h (hd bs)]; exact fn_rt (sN (hp _) (sF (hif _) (sT (by kernel_rfl) (ret_of (iT (by kernel_rfl) (op_of rfl rfl (ix_row (at_hd h0))))))))
    | 11, _, _ => rw [show an 11 bs = ls bs from mo_eq h (ls bs)]; exact fn_rt (sN (hp _) (sF (hif _) (sT (by kernel_rfl) (ret_of (iF (by kernel_rfl) (op_of rfl rfl (ix_row (at_ls h0))))))))
  · have e : ∀ i : Nat, 8 ≤ i → i < 12 → an i bs = decide (bs.count false < bs.count true) := fun i h1 h2 => by
      match i, h1, h2 with
      | 8, _, _ => exact mo_ne h _
      | 9, _, _ => exact mo_ne h _
      | 10, _, _ => exact mo_ne h _
      | 11, _, _ => exact mo_ne h _
    intro i h1 h2
    rw [e i h1 h2]
    exact fn_rt (sN (hp _) (sT (b_of (op_of rfl rfl (ne_int h))) (ret_of (call_of (one_of (op_of rfl rfl (gt_nat _ _))) (said_ok _ s)))))
theorem answer_of_ok (hl : bs.length ≤ 12) : ∀ i : Nat, i < 13 → f_answer_of [.str (wy i), row bs] s = some ((vD (an i bs), false), s)
  | 0, _ => fn_rt (sF (by kernel_rfl) (sF (by kernel_rfl) (sT (by kernel_rfl) (ret_of (call_of (one_of (iT (by kernel_rfl) (op_of (y := row bs) rfl rfl (congrArg (Option.map D.bl) (in_row bs true))))) (said_ok _ s))))))
  | 1, _ => fn_rt (sF (by kernel_rfl) (sF (by kernel_rfl) (sF (by kernel_rfl) (sF (by kernel_rfl) (sF (by kernel_rfl) (sF (by kernel_rfl) (ret_of (call_of (one_of (by kernel_rfl)) (said_ok true s)))))))))
  | 2, _ => fn_rt (sF (by kernel_rfl) (sF (by kernel_rfl) (sF (by kernel_rfl) (sF (by kernel_rfl) (sF (by kernel_rfl) (sF (by kernel_rfl) (ret_of (call_of (one_of (by kernel_rfl)) (said_ok false s)))))))))
  | 3, _ => fn_rt (sF (by kernel_rfl) (sF (by kernel_rfl) (sF (by kernel_rfl) (sF (by kernel_rfl) (sT (by kernel_rfl) (ret_of (call_of (one_of (andV_val (op_of (op_of rfl rfl (ix_row (at_hd h0))) rfl ((eq_v (hd bs) true).trans (by rw [beq_true]))) fun _ => op_of (op_of rfl rfl (ix_row (at_ls h0))) rfl ((eq_v (ls bs) true).trans (by rw [beq_true])))) (said_ok _ s))))))))
  | 4, _ => fn_rt (sF (by kernel_rfl) (sF (by kernel_rfl) (sT (by kernel_rfl) (ret_of (call_of (one_of (iF (by kernel_rfl) (op_of (y := row bs) rfl rfl (congrArg (Option.map fun b => D.bl (!b)) (in_row bs false))))) (said_ok _ s))))))
  | 5, _ => fn_rt (sF (by kernel_rfl) (sT (by kernel_rfl) (ret_of (iT (by kernel_rfl) (op_of rfl rfl (ix_row (at_hd h0)))))))
  | 6, _ => by
    have e : inB (.tup ((jn bs).map vD)) (.tup [.tup [c_ALLOW], .tup [c_DENY, c_ALLOW, c_DENY]]) = some (isl bs) := by
      rw [← isl_jn bs h0]
      have cj : convL ((jn bs).map vD) = some ((jn bs).map fun b => PyData.str (vs b)) := convL_map vD (fun b => PyData.str (vs b)) (fun _ => rfl) _
      have sj : SeqAt.shaped (.tuple ((jn bs).map fun b => PyData.str (vs b))) = true := by
        have := shaped_strsT (vs_all (jn bs))
        rw [List.map_map] at this
        exact this
      unfold inB
      show (((convL ((jn bs).map vD)).map PyData.tuple).bind fun x => _) = _
      rw [cj]
      show (if (SeqAt.shaped (.tuple ((jn bs).map fun b => PyData.str (vs b))) && SeqAt.shaped (.list [.tuple [.str (vs true)], .tuple [.str (vs false), .str (vs true), .str (vs false)]]) && SeqAt.shaped (.tuple [.tuple [.str (vs true)], .tuple [.str (vs false), .str (vs true), .str (vs false)]])) = true then some (PyData.eqvAll [.str (vs true)] ((jn bs).map fun b => PyData.str (vs b)) || (PyData.eqvAll [.str (vs false), .str (vs true), .str (vs false)] ((jn bs).map fun b => PyData.str (vs b)) || false)) else none) = _
      rw [sj, if_pos (by decide +kernel)]
      have q : ∀ xs ys : List Bool, PyData.eqvAll (xs.map fun b => PyData.str (vs b)) (ys.map fun b => PyData.str (vs b)) = (ys == xs) := fun xs => by
        induction xs with
        | nil => intro ys; cases ys <;> rfl
        | cons x xs ih =>
          intro ys
          cases ys with
          | nil => rfl
          | cons y ys =>
            show ((vs x == vs y) && PyData.eqvAll (xs.map fun b => PyData.str (vs b)) (ys.map fun b => PyData.str (vs b))) = (y == x && ys == xs)
            rw [ih ys, vs_eq, show (x == y) = (y == x) from BEq.comm]
      have q1 := q [true] (jn bs)
      have q2 := q [false, true, false] (jn bs)
      rw [Bool.or_false]
      exact congrArg some (congr (congrArg or q1) q2)
    exact fn_rt (sF (by kernel_rfl) (sF (by kernel_rfl) (sF (by kernel_rfl) (sF (by kernel_rfl) (sF (by kernel_rfl) (sT (by kernel_rfl) (ret_of (call_of (one_of (op_of (call_of (one_of rfl) (joined_ok (by omega) s)) (tup_of (cons_of (tup_of (one_of rfl) (by decide)) (one_of (tup_of (cons_of rfl (cons_of rfl (one_of rfl))) (by decide)))) (by decide)) (congrArg (Option.map D.bl) e))) (said_ok _ s)))))))))
  | 7, _ => fn_rt (sF (by kernel_rfl) (sT (by kernel_rfl) (ret_of (iF (by kernel_rfl) (op_of rfl rfl (ix_row (at_ls h0)))))))
  | 8, _ => fn_rt (sT (by kernel_rfl) (ret_of (call_of (cons_of rfl (one_of rfl)) (most_ok h0 s 8 (by decide) (by decide)))))
  | 9, _ => fn_rt (sT (by kernel_rfl) (ret_of (call_of (cons_of rfl (one_of rfl)) (most_ok h0 s 9 (by decide) (by decide)))))
  | 10, _ => fn_rt (sT (by kernel_rfl) (ret_of (call_of (cons_of rfl (one_of rfl)) (most_ok h0 s 10 (by decide) (by decide)))))
  | 11, _ => fn_rt (sT (by kernel_rfl) (ret_of (call_of (cons_of rfl (one_of rfl)) (most_ok h0 s 11 (by decide) (by decide)))))
  | 12, _ => fn_rt (sF (by kernel_rfl) (sF (by kernel_rfl) (sF (by kernel_rfl) (sT (by kernel_rfl) (ret_of (call_of (one_of (op_of (op_of (op_of rfl rfl (count_row bs false)) rfl rfl) rfl ((eqD_int _ _).trans (by
      show some (D.bl (((bs.count false : Nat) : Int) % 2 == 0)) = some (D.bl (decide (bs.count false % 2 = 0)))
      by_cases z : bs.count false % 2 = 0
      · rw [decide_eq_true z, beq_iff_eq.mpr (show ((bs.count false : Nat) : Int) % 2 = 0 by omega)]
      · rw [decide_eq_false z, beq_eq_false_iff_ne.mpr (show ((bs.count false : Nat) : Int) % 2 ≠ 0 by omega)])))) (said_ok _ s)))))))
  | n + 13, h => absurd h (by omega)
end
end Rk09
end
section
set_option Elab.async false
set_option linter.all false
set_option maxRecDepth 100000
set_option maxHeartbeats 4000000
open PySem L2 Dl PyProof.Rows
namespace Rk09
theorem fin_ok (a b c d e f : Sl) (g : Bool) (s : Tau) : dIf (dB (dVar 4)) (dC (.str "+")) (dC (.str "-")) [a, b, c, d, .im (.bl g), e, f] s = some (gD g, s) := by
  cases g <;> rfl
theorem plus_ok : ∀ a b : Bool, eqD (.str (tx [a, b])) (.str "++") = some (.bl (a && b)) := fun a b => by cases a <;> cases b <;> kernel_rfl
theorem even_ok : ∀ n : Nat, n ≤ 12 → inD (.int (n : Nat)) (.lst [.int 0, .int 2, .int 4, .int 6, .int 8, .int 10, .int 12]) = some (.bl (decide (n % 2 = 0)))
  | 0, _ | 1, _ | 2, _ | 3, _ | 4, _ | 5, _ | 6, _ | 7, _ | 8, _ | 9, _ | 10, _ | 11, _ | 12, _ => by kernel_rfl
  | n + 13, h => absurd h (by omega)
section
variable {bs : List Bool} (h0 : bs ≠ []) (s : Tau)
include h0
theorem lmost_ok (hl : bs.length ≤ 12) (i : Nat) (h1 : 8 ≤ i) (h2 : i < 12) : f__law_answer [.str (wy i), .str (tx bs)] s = some ((gD (an i bs), false), s) := by
  have hm : ∀ w : D, dAsg (dOp subD (dMethS countSD (dVar 1) (dCons (dC (.str "+")) dNil)) (dMethS countSD (dVar 1) (dCons (dC (.str "-")) dNil))) (gdName 2) [.im w, .im (.str (tx bs)), .un, .un, .un, .un, .un] s = some (.nx [.im w, .im (.str (tx bs)), .im (.int ((bs.count true : Nat) - (bs.count false : Nat))), .un, .un, .un, .un], s) := fun w =>
    asg_of (op_of (methS_of rfl (one_of rfl) (count_tx bs true)) (methS_of rfl (one_of rfl) (count_tx bs false)) rfl)
  have hd' : ∀ w : D, dAsg (dDisp (dpCons (dC (.str "allow")) (dC (.str "+")) (dpCons (dC (.str "deny")) (dC (.str "-")) (dpCons (dC (.str "first")) (dOp ixD (dVar 1) (dC (.int 0))) (dpCons (dC (.str "last")) (dOp ixD (dVar 1) (dUn negD (dC (.int 1)))) dpNil))))) (gdName 3) [.im w, .im (.str (tx bs)), .im (.int ((bs.count true : Nat) - (bs.count false : Nat))), .un, .un, .un, .un] s =
      some (.nx [.im w, .im (.str (tx bs)), .im (.int ((bs.count true : Nat) - (bs.count false : Nat))), .im (.dS (mergeD [] [("allow", gD true), ("deny", gD false), ("first", gD (hd bs)), ("last", gD (ls bs))])), .un, .un, .un], s) := fun w =>
    asg_of (disp_of (dp_cons rfl rfl (dp_cons rfl rfl (dp_cons rfl (op_of rfl rfl (ix_tx (by omega) (at_hd h0))) (dp_cons rfl (op_of rfl rfl (ix_tx (by omega) (at_ls h0))) rfl)))) (by show 4 ≤ 15; decide))
  have key : ∀ t : Bool, (∀ b c : Sl, dSl slD (dVar 0) (dSome (dC (.int 8))) dNone [.im (.str (wy i)), b, c, .im (.dS (mergeD [] [("allow", gD true), ("deny", gD false), ("first", gD (hd bs)), ("last", gD (ls bs))])), .un, .un, .un] s = some (.str ((["allow", "deny", "first", "last"] : List Str).getD (i - 8) ""), s)) → dgetD (.dS (mergeD [] [("allow", gD true), ("deny", gD false), ("first", gD (hd bs)), ("last", gD (ls bs))])) (.str ((["allow", "deny", "first", "last"] : List Str).getD (i - 8) "")) = some (gD t) → an i bs = mo bs t →
      dB (dOp eqD (dSl slD (dVar 0) dNone (dSome (dC (.int 7)))) (dC (.str "most or"))) [.im (.str (wy i)), .im (.str (tx bs)), .im (.int ((bs.count true : Nat) - (bs.count false : Nat))), .un, .un, .un, .un] s = some (true, s) → f__law_answer [.str (wy i), .str (tx bs)] s = some ((gD (an i bs), false), s) := fun t q1 q2 q3 q4 => by
    refine fn_rt (sN (hm _) (sT q4 (sN (hd' _) (ret_of ?_))))
    by_cases h : bs.count true = bs.count false
    · rw [q3, mo_eq h, h, Int.sub_self]
      exact iT (b_of (op_of rfl rfl (eq_int_self 0))) (op_of rfl (q1 _ _) q2)
    · rw [q3, mo_ne h]
      refine iF (b_of (op_of rfl rfl (eq_int_ne (by omega)))) (ifE_of (b := decide (bs.count false < bs.count true)) (b_of (op_of rfl rfl ?_)) (fun e => by rw [e]; rfl) (fun e => by rw [e]; rfl))
      show some (D.bl (decide ((0 : Int) < (bs.count true : Nat) - (bs.count false : Nat)))) = _
      rw [show decide ((0 : Int) < (bs.count true : Nat) - (bs.count false : Nat)) = decide (bs.count false < bs.count true) from decide_eq_decide.mpr (by omega)]
  match i, h1, h2 with
  | 8, _, _ => exact key true (fun _ _ => by kernel_rfl) (by kernel_rfl) rfl (by kernel_rfl)
  | 9, _, _ => exact key false (fun _ _ => by kernel_rfl) (by kernel_rfl) rfl (by kernel_rfl)
  | 10, _, _ => exact key (hd bs) (fun _ _ => by kernel_rfl) (by kernel_rfl) rfl (by kernel_rfl)
  | 11, _, _ => exact key (ls bs) (fun _ _ => by kernel_rfl) (by kernel_rfl) rfl (by kernel_rfl)
theorem lanswer_ok (hl : bs.length ≤ 12) : ∀ i : Nat, i < 13 → f__law_answer [.str (wy i), .str (tx bs)] s = some ((gD (an i bs), false), s) := by
  have hm : ∀ w : D, dAsg (dOp subD (dMethS countSD (dVar 1) (dCons (dC (.str "+")) dNil)) (dMethS countSD (dVar 1) (dCons (dC (.str "-")) dNil))) (gdName 2) [.im w, .im (.str (tx bs)), .un, .un, .un, .un, .un] s = some (.nx [.im w, .im (.str (tx bs)), .im (.int ((bs.count true : Nat) - (bs.count false : Nat))), .un, .un, .un, .un], s) := fun w =>
    asg_of (op_of (methS_of rfl (one_of rfl) (count_tx bs true)) (methS_of rfl (one_of rfl) (count_tx bs false)) rfl)
  intro i hi
  match i, hi with
  | 0, _ =>
    refine fn_rt (sN (hm _) (sF (by kernel_rfl) (sF (by kernel_rfl) (sN (asg_of (x := .bl false) (by kernel_rfl)) (sA (by kernel_rfl) (asg_of (x := .bl (bs.contains true)) (op_of (methS_of rfl (one_of rfl) (count_tx bs true)) rfl ?_)) (sF (by kernel_rfl) (sF (by kernel_rfl) (sF (by kernel_rfl) (sF (by kernel_rfl) (ret_of (fin_ok _ _ _ _ _ _ _ s)))))))))))
    show some (D.bl (decide ((0 : Int) < (bs.count true : Nat)))) = _
    congr 2
    rw [List.contains_eq_mem]
    exact decide_eq_decide.mpr (by rw [← List.count_pos_iff]; omega)
  | 1, _ => exact fn_rt (sN (hm _) (sF (by kernel_rfl) (sF (by kernel_rfl) (sN (asg_of (x := .bl true) (by kernel_rfl)) (sF (by kernel_rfl) (sF (by kernel_rfl) (sF (by kernel_rfl) (sF (by kernel_rfl) (sF (by kernel_rfl) (ret_of (fin_ok _ _ _ _ _ _ _ s)))))))))))
  | 2, _ => exact fn_rt (sN (hm _) (sF (by kernel_rfl) (sF (by kernel_rfl) (sN (asg_of (x := .bl false) (by kernel_rfl)) (sF (by kernel_rfl) (sF (by kernel_rfl) (sF (by kernel_rfl) (sF (by kernel_rfl) (sF (by kernel_rfl) (ret_of (fin_ok _ _ _ _ _ _ _ s)))))))))))
  | 3, _ =>
    have hp : 0 < bs.length := List.length_pos_iff.mpr h0
    have e1 : cutL bs none (some 1) = [hd bs] := by
      rw [show (1 : Int) = ((1 : Nat) : Int) from rfl, cut_to]
      cases bs with
      | nil => exact absurd rfl h0
      | cons b r => rfl
    have e2 : cutL bs (some (-1)) none = [ls bs] := by
      unfold cutL
      rw [HT.sIx_none]
      have e3 : HT.sIx bs.length 0 (some (-1)) = bs.length - 1 := by
        show (if (-1 : Int) < 0 then (-1 + (bs.length : Int)).toNat else min (-1 : Int).toNat bs.length) = _
        rw [if_pos (by decide)]; omega
      rw [e3, show bs.length - (bs.length - 1) = 1 by omega]
      have e4 := at_ls2 h0
      rw [show ((bs.length : Int) - 1) = ((bs.length - 1 : Nat) : Int) by omega, at_nat] at e4
      rw [List.drop_eq_getElem_cons (by omega), List.take_succ_cons, List.take_zero]
      rw [List.getElem?_eq_getElem (by omega)] at e4
      rw [Option.some.inj e4]
    refine fn_rt (sN (hm _) (sF (by kernel_rfl) (sF (by kernel_rfl) (sN (asg_of (x := .bl false) (by kernel_rfl)) (sF (by kernel_rfl) (sF (by kernel_rfl) (sF (by kernel_rfl) (sA (by kernel_rfl) (asg_of (x := .bl (hd bs && ls bs)) (op_of (x := .str (tx [hd bs, ls bs])) (y := .str "++") (op_of (x := .str (tx [hd bs])) (y := .str (tx [ls bs])) (sl_of (s2 := s) rfl rfl (some_of rfl) ?_) (sl_of (s2 := s) rfl (some_of (i := -1) rfl) rfl ?_) (add_tx (by show 1 + 1 ≤ 1000000; decide))) rfl (plus_ok _ _))) (sF (by kernel_rfl) (ret_of (fin_ok _ _ _ _ _ _ _ s)))))))))))
    · exact (sl_tx (by omega) _ _).trans (by rw [e1])
    · exact (sl_tx (by omega) _ _).trans (by rw [e2])
  | 4, _ =>
    refine fn_rt (sN (hm _) (sF (by kernel_rfl) (sF (by kernel_rfl) (sN (asg_of (x := .bl false) (by kernel_rfl)) (sF (by kernel_rfl) (sA (by kernel_rfl) (asg_of (x := .bl (!bs.contains false)) (op_of (methS_of rfl (one_of rfl) (count_tx bs false)) rfl ?_)) (sF (by kernel_rfl) (sF (by kernel_rfl) (sF (by kernel_rfl) (ret_of (fin_ok _ _ _ _ _ _ _ s)))))))))))
    show some (D.bl (((bs.count false : Nat) : Int) == 0)) = _
    congr 2
    rw [List.contains_eq_mem]
    by_cases z : false ∈ bs
    · have := List.count_pos_iff.mpr z
      rw [decide_eq_true z, beq_eq_false_iff_ne.mpr (by omega)]; rfl
    · rw [decide_eq_false z, List.count_eq_zero.mpr z]; rfl
  | 5, _ => exact fn_rt (sN (hm _) (sF (by kernel_rfl) (sT (by kernel_rfl) (ret_of (op_of rfl (iT (by kernel_rfl) rfl) (ix_tx (by omega) (at_hd h0)))))))
  | 6, _ =>
    have lc := lc_map (g := gdName 6) (di := dRng2 (dCons (dC (.int 1)) (dCons (dCallB lenD (dCons (dVar 1) dNil)) dNil))) (bt := dB (dOp neD (dOp ixD (dVar 1) (dVar 6)) (dOp ixD (dVar 1) (dOp subD (dVar 6) (dC (.int 1)))))) (de := dVar 6) (vs := [6])
      (ρ := [.im (.str (wy 6)), .im (.str (tx bs)), .im (.int ((bs.count true : Nat) - (bs.count false : Nat))), .un, .im (.bl false), .un, .un]) (s := s)
      (fun i : Nat => D.int (1 + i : Nat)) (fun i => !((bs[1 + i]?.getD true) == (bs[i]?.getD true))) (fun i : Nat => D.int (1 + i : Nat)) (List.range (bs.length - 1))
      (rng2_of (cons_of rfl (one_of (callB_of (one_of rfl) (len_tx (by omega))))) (by decide) (by omega)) (by rw [List.length_range]; omega) (fun i hi => by
        have hi := List.mem_range.mp hi
        obtain ⟨b, hb⟩ : ∃ b, bs[1 + i]? = some b := ⟨_, List.getElem?_eq_getElem (by omega)⟩
        obtain ⟨c, hc⟩ : ∃ c, bs[i]? = some c := ⟨_, List.getElem?_eq_getElem (by omega)⟩
        refine ⟨_, rfl, b_of (op_of (op_of rfl rfl (ix_tx (by omega) ((at_nat bs (1 + i)).trans hb))) (op_of rfl (op_of rfl rfl rfl) (ix_tx (b := c) (by omega) ?_)) ((ne_g b c).trans ?_)), fun _ => rfl⟩
        · show atI bs (((1 + i : Nat) : Int) - 1) = _
          rw [show (((1 + i : Nat) : Int) - 1) = (i : Int) by omega, at_nat, hc]
        · rw [hb, hc]; rfl)
    have hc := chN_ix bs
    generalize hx : (List.range (bs.length - 1)).filter (fun i => !((bs[1 + i]?.getD true) == (bs[i]?.getD true))) = cs at lc hc
    refine fn_rt (sN (hm _) (sF (by kernel_rfl) (sF (by kernel_rfl) (sN (asg_of (x := .bl false) (by kernel_rfl)) (sF (by kernel_rfl) (sF (by kernel_rfl) (sF (by kernel_rfl) (sF (by kernel_rfl) (sA (by kernel_rfl) (sN (asg_of lc) (asg_of (x := .bl (isl bs)) ?_)) (ret_of (fin_ok _ _ _ _ _ _ _ s)))))))))))
    have lcs : lenD [.lst (cs.map fun i : Nat => D.int (1 + i : Nat))] = some (.int cs.length) := by
      show some (D.int (cs.map _).length) = _
      rw [List.length_map]
    have ecs : eqD (.lst (cs.map fun i : Nat => D.int (1 + i : Nat))) (.lst []) = some (.bl (decide (chN bs = 0))) := by
      have := eq_ints_nil (cs.map fun i : Nat => ((1 + i : Nat) : Int))
      rw [List.map_map, List.length_map, hc] at this
      exact this
    have h2 : (((chN bs : Nat) : Int) == 2) = decide (chN bs = 2) := by
      by_cases z : chN bs = 2
      · rw [z]; rfl
      · rw [decide_eq_false z, beq_eq_false_iff_ne.mpr (by omega)]
    refine orV_val (andV_val (op_of (op_of rfl rfl (ix_tx (by omega) (at_hd h0))) rfl ((eq_g (hd bs) true).trans (by rw [beq_true]))) fun _ => op_of rfl rfl ecs) (fun _ => andV_val (op_of (op_of rfl rfl (ix_tx (by omega) (at_hd h0))) rfl ((eq_g (hd bs) false).trans (by rw [beq_false]))) fun _ => op_of (callB_of (one_of rfl) lcs) rfl ((eqD_int _ _).trans ?_))
    rw [hc]
    exact congrArg (fun b => some (D.bl b)) h2
  | 7, _ => exact fn_rt (sN (hm _) (sF (by kernel_rfl) (sT (by kernel_rfl) (ret_of (op_of rfl (iF (by kernel_rfl) (op_of (callB_of (one_of rfl) (len_tx (by omega))) rfl rfl)) (ix_tx (by omega) (at_ls2 h0)))))))
  | 8, _ => exact lmost_ok h0 s hl 8 (by decide) (by decide)
  | 9, _ => exact lmost_ok h0 s hl 9 (by decide) (by decide)
  | 10, _ => exact lmost_ok h0 s hl 10 (by decide) (by decide)
  | 11, _ => exact lmost_ok h0 s hl 11 (by decide) (by decide)
  | 12, _ => exact fn_rt (sN (hm _) (sF (by kernel_rfl) (sF (by kernel_rfl) (sN (asg_of (x := .bl false) (by kernel_rfl)) (sF (by kernel_rfl) (sF (by kernel_rfl) (sA (by kernel_rfl) (asg_of (op_of (methS_of rfl (one_of rfl) (count_tx bs false)) (lst_of (cons_of rfl (cons_of rfl (cons_of rfl (cons_of rfl (cons_of rfl (cons_of rfl (one_of rfl))))))) (by decide)) (even_ok _ (Nat.le_trans List.count_le_length hl)))) (sF (by kernel_rfl) (sF (by kernel_rfl) (ret_of (fin_ok _ _ _ _ _ _ _ s)))))))))))
  | n + 13, h => exact absurd h (by omega)
end
end Rk09
end
section
set_option Elab.async false
set_option linter.all false
set_option maxRecDepth 100000
set_option maxHeartbeats 4000000
open PySem L2 Dl PyProof.Rows
namespace Rk09
/-- the places where a turned voice turns the answer -/
def mt (i : Nat) (bs : List Bool) : List Nat := (List.range bs.length).filter fun j => !(an i (fl bs j) == an i bs)
theorem fl_ne {bs : List Bool} (h : bs ≠ []) (j : Nat) : fl bs j ≠ [] := fun e => by
  have := fl_len bs j
  rw [e] at this
  exact h (List.length_eq_zero_iff.mp this.symm)
theorem matters_ok {i : Nat} (hi : i < 13) {bs : List Bool} (h0 : bs ≠ []) (hl : bs.length ≤ 12) (s : Tau) : f_matters [.str (wy i), row bs] s = some ((.tup ((mt i bs).map fun j : Nat => D.int j), false), s) := by
  have lc := lc_map (g := gdName 3) (di := dRng1 (dCons (dCallB lenD (dCons (dVar 1) dNil)) dNil)) (bt := dB (dOp neD (dCall f_answer_of (dCons (dVar 0) (dCons (dCall f_turned_at (dCons (dVar 1) (dCons (dVar 3) dNil))) dNil))) (dVar 2))) (de := dVar 3) (vs := [3])
    (ρ := [.im (.str (wy i)), .im (row bs), .im (vD (an i bs)), .un]) (s := s) (fun j : Nat => D.int j) (fun j => !(an i (fl bs j) == an i bs)) (fun j : Nat => D.int j) (List.range bs.length)
    (rng1_of (one_of (callB_of (one_of rfl) (len_row bs))) (by omega)) (by rw [List.length_range]; omega) (fun j hj => by
      have hj := List.mem_range.mp hj
      obtain ⟨b, hb⟩ : ∃ b, bs[j]? = some b := ⟨_, List.getElem?_eq_getElem hj⟩
      exact ⟨_, rfl, b_of (op_of (call_of (cons_of rfl (one_of (call_of (cons_of rfl (one_of rfl)) (turned_at_ok (by omega) hb s)))) (answer_of_ok (fl_ne h0 j) s (by rw [fl_len]; exact hl) i hi)) rfl (ne_v _ _)), fun _ => rfl⟩)
  exact fn_rt (sN (drop_of (call_of (cons_of rfl (one_of rfl)) (both_ok hi h0 hl s))) (sN (asg_of (call_of (cons_of rfl (one_of rfl)) (answer_of_ok h0 s hl i hi))) (ret_of (callB_of (one_of lc) rfl))))
theorem ways_in : ∀ d ∈ wys.map D.str, ∃ i, i < 13 ∧ d = .str (wy i) := fun d h => by
  obtain ⟨x, hx, rfl⟩ := List.mem_map.mp h
  obtain ⟨i, hi, e⟩ := List.mem_iff_getElem.mp hx
  refine ⟨i, hi, ?_⟩
  unfold wy
  rw [List.getD_eq_getElem?_getD, List.getElem?_eq_getElem hi, e]; rfl
theorem lways_ok (s : Tau) : f__law_ways [] s = some ((.lst (wys.map D.str), false), s) := by kernel_rfl
theorem alike_str {a : Str} (h : PyData.strOk a = true) (s : Tau) : f__law_alike 4 [.str a, .str a] s = some ((.bl true, false), s) := alike_ok 4 _ _ (.str a) s rfl rfl h (by show 0 < 4; decide) (.str a)
theorem alike_ints (xs : List Int) (hl : xs.length ≤ 1000000) (s : Tau) : f__law_alike 4 [.tup (xs.map D.int), .tup (xs.map D.int)] s = some ((.bl true, false), s) := by
  have e : (D.tup (xs.map D.int)).conv = some (.tuple (xs.map PyData.int)) := by
    show (convL (xs.map D.int)).map PyData.tuple = _
    rw [convL_map D.int PyData.int fun _ => rfl]; rfl
  refine alike_ok 4 _ _ (.tuple (xs.map PyData.int)) s e e (lay_ints xs) ?_ (.tup (by rw [List.length_map]; exact hl) fun p hp => ?_)
  · show PyData.depthAll (xs.map PyData.int) + 1 < 4
    rw [depth_ints]; decide
  · obtain ⟨i, _, rfl⟩ := List.mem_map.mp hp
    exact .int i
end Rk09
end
section
set_option Elab.async false
set_option linter.all false
set_option maxRecDepth 100000
set_option maxHeartbeats 4000000
open PySem L2 Dl PyProof.Rows
namespace Rk09
/-! code that may raise, in plain steps -/
section
variable {a b : Dxs} {dn : Ds} {ρ ρ1 : List Sl} {s s1 s2 : Tau} {x : Exn} {d : D} {o : Bool} {r : Option (Rx × Tau)} {bt : Dt} {e : Dxe} {f : Fnx} {ax : Da} {xs : List D}
theorem x_nx (h : a ρ s = some (.ok (.nx ρ1), s1)) (h2 : b ρ1 s1 = r) : dxSeq a b ρ s = r := by unfold dxSeq; rw [h]; exact h2
theorem x_rt (h : a ρ s = some (.ok (.rt d o), s1)) : dxSeq a b ρ s = some (.ok (.rt d o), s1) := by unfold dxSeq; rw [h]; rfl
theorem x_xc (h : a ρ s = some (.xc x ρ1, s1)) : dxSeq a b ρ s = some (.xc x ρ1, s1) := by unfold dxSeq; rw [h]; rfl
theorem x_lift {q : Rs} (h : dn ρ s = some (q, s1)) : dxLift dn ρ s = some (.ok q, s1) := by unfold dxLift; rw [h]; rfl
theorem x_ifT (h : bt ρ s = some (true, s1)) (h2 : a ρ s1 = r) : dxIf bt a b ρ s = r := by unfold dxIf; rw [h]; exact h2
theorem x_ifF (h : bt ρ s = some (false, s1)) (h2 : b ρ s1 = r) : dxIf bt a b ρ s = r := by unfold dxIf; rw [h]; exact h2
theorem x_expr (h : e ρ s = some (.inl d, s1)) : dxExpr e ρ s = some (.ok (.nx ρ), s1) := by unfold dxExpr; rw [h]; rfl
theorem x_exprX (h : e ρ s = some (.inr x, s1)) : dxExpr e ρ s = some (.xc x ρ, s1) := by unfold dxExpr; rw [h]; rfl
theorem x_set {i : Nat} (h : e ρ s = some (.inl d, s1)) : dxSet i e ρ s = some (.ok (.nx (ρ.set i (.im d))), s1) := by unfold dxSet; rw [h]; rfl
theorem x_setX {i : Nat} (h : e ρ s = some (.inr x, s1)) : dxSet i e ρ s = some (.xc x ρ, s1) := by unfold dxSet; rw [h]; rfl
theorem x_call (h : ax ρ s = some (xs, s1)) (h2 : f xs s1 = some (.inl (d, o), s2)) : dCallR f ax ρ s = some (.inl d, s2) := by
  unfold dCallR; rw [h]; show (f xs s1).map _ = _; rw [h2]; rfl
theorem x_callX (h : ax ρ s = some (xs, s1)) (h2 : f xs s1 = some (.inr x, s2)) : dCallR f ax ρ s = some (.inr x, s2) := by
  unfold dCallR; rw [h]; show (f xs s1).map _ = _; rw [h2]; rfl
theorem x_callA (h : ax ρ s = some (xs, s1)) (h2 : f xs s1 = some (.inl (d, o), s2)) : dCallA f ax ρ s = some (d, s2) := by
  unfold dCallA; rw [x_call h h2]; rfl
theorem x_fnR {m : Nat} {ds : List D} (h : a (ds.map Sl.im ++ List.replicate (m - ds.length) .un) s = some (.ok (.rt d o), s1)) : dxFn m a ds s = some (.inl (d, o), s1) := by unfold dxFn; rw [h]; rfl
theorem x_fnN {m : Nat} {ds : List D} (h : a (ds.map Sl.im ++ List.replicate (m - ds.length) .un) s = some (.ok (.nx ρ1), s1)) : dxFn m a ds s = some (.inl (.non, false), s1) := by unfold dxFn; rw [h]; rfl
theorem x_fnX {m : Nat} {ds : List D} (h : a (ds.map Sl.im ++ List.replicate (m - ds.length) .un) s = some (.xc x ρ1, s1)) : dxFn m a ds s = some (.inr x, s1) := by unfold dxFn; rw [h]; rfl
theorem x_raise {nm : Str} : dxRaise nm ρ s = some (.xc ⟨nm, none⟩ ρ, s) := rfl
end
theorem var_at {ρ : List Sl} {i : Nat} {d : D} {s : Tau} (h : ρ[i]? = some (.im d)) : dVar i ρ s = some (d, s) := by
  unfold dVar; rw [h]
/-! texts -/
theorem join_ok (sep : Str) (h : PyData.strOk sep = true) : ∀ ys : List Str, (∀ y ∈ ys, PyData.strOk y = true) → PyData.strOk (Txt.join sep ys) = true := fun ys hy => by
  have key : ∀ (ps : List Str) (acc : Array Nat), (acc.all (· < 0x110000)) = true → (∀ y ∈ ps, PyData.strOk y = true) → ((ps.foldl (fun acc p => acc ++ sep.cps ++ p.cps) acc).all (· < 0x110000)) = true := fun ps => by
    induction ps with
    | nil => exact fun acc h _ => h
    | cons p ps ih =>
      intro acc ha hp
      rw [List.foldl_cons]
      refine ih _ ?_ fun y q => hp y (List.mem_cons_of_mem _ q)
      have e1 : (sep.cps.all (· < 0x110000)) = true := h
      have e2 : (p.cps.all (· < 0x110000)) = true := hp p List.mem_cons_self
      rw [Array.all_append, Array.all_append, ha, e1, e2]; rfl
  show (((ys.drop 1).foldl (fun acc p => acc ++ sep.cps ++ p.cps) (ys.headD Str.empty).cps).all (· < 0x110000)) = true
  refine key _ _ ?_ fun y q => hy y (List.mem_of_mem_drop q)
  cases ys with
  | nil => kernel_rfl
  | cons y ys => exact hy y List.mem_cons_self
theorem ne_tup_nil {xs : List D} {ps : List PyData} (h : convL xs = some ps) (hs : SeqAt.shaped (.tuple ps) = true) : neD (.tup xs) (.tup []) = some (.bl (!xs.isEmpty)) := by
  unfold neD
  rw [eqB_of (x := .tuple ps) (y := .tuple []) (by show (convL xs).map PyData.tuple = _; rw [h]; rfl) rfl hs rfl]
  have hl := convL_len h
  cases xs with
  | nil => cases ps with
    | nil => rfl
    | cons => cases hl
  | cons x xs => cases ps with
    | nil => cases hl
    | cons => rfl
theorem eq_tup_nil {xs : List D} {ps : List PyData} (h : convL xs = some ps) (hs : SeqAt.shaped (.tuple ps) = true) : eqD (.tup xs) (.tup []) = some (.bl xs.isEmpty) := by
  unfold eqD
  rw [eqB_of (x := .tuple ps) (y := .tuple []) (by show (convL xs).map PyData.tuple = _; rw [h]; rfl) rfl hs rfl]
  have hl := convL_len h
  cases xs with
  | nil => cases ps with
    | nil => rfl
    | cons => cases hl
  | cons x xs => cases ps with
    | nil => cases hl
    | cons => rfl
theorem ne_lst_nil {xs : List D} {ps : List PyData} (h : convL xs = some ps) (hs : SeqAt.shaped (.list ps) = true) : neD (.lst xs) (.lst []) = some (.bl (!xs.isEmpty)) := by
  unfold neD
  rw [eqB_of (x := .list ps) (y := .list []) (by show (convL xs).map PyData.list = _; rw [h]; rfl) rfl hs rfl]
  have hl := convL_len h
  cases xs with
  | nil => cases ps with
    | nil => rfl
    | cons => cases hl
  | cons x xs => cases ps with
    | nil => cases hl
    | cons => rfl
theorem conv_row (bs : List Bool) : convL (bs.map vD) = some ((bs.map vs).map PyData.str) := by
  rw [List.map_map]
  exact convL_map vD (fun b => PyData.str (vs b)) (fun _ => rfl) bs
theorem row_ne (bs : List Bool) : neD (row bs) (.tup []) = some (.bl (!bs.isEmpty)) := by
  refine (ne_tup_nil (conv_row bs) (shaped_strsT (vs_all bs))).trans ?_
  cases bs <;> rfl
theorem row_eq (bs : List Bool) : eqD (row bs) (.tup []) = some (.bl bs.isEmpty) := by
  refine (eq_tup_nil (conv_row bs) (shaped_strsT (vs_all bs))).trans ?_
  cases bs <;> rfl
theorem shaped_intsT (xs : List Int) : SeqAt.shaped (.tuple (xs.map PyData.int)) = true := by
  unfold SeqAt.shaped
  rw [Bool.and_eq_true]
  refine ⟨lay_ints xs, decide_eq_true ?_⟩
  show PyData.depthAll (xs.map PyData.int) + 1 ≤ 64
  rw [depth_ints]; decide
theorem nats_ne (js : List Nat) : neD (.tup (js.map fun j : Nat => D.int j)) (.tup []) = some (.bl (!js.isEmpty)) := by
  refine (ne_tup_nil (ps := (js.map fun j : Nat => (j : Int)).map PyData.int) ?_ (shaped_intsT _)).trans ?_
  · rw [List.map_map]
    exact convL_map (fun j : Nat => D.int j) (fun j : Nat => PyData.int j) (fun _ => rfl) js
  · cases js <;> rfl
/-- a place as a text -/
def ij (j : Nat) : Str := toString (j : Int)
theorem ij_len : ∀ j, j < 12 → (ij j).length ≤ 2 := by decide +kernel
theorem ij_ok : ∀ j, j < 12 → PyData.strOk (ij j) = true := by decide +kernel
theorem ij_id : ∀ j : Nat, j < 12 → decide ((j : Int).natAbs.log2 < 1920) = true := by decide +kernel
theorem str_ij {j : Nat} (h : j < 12) : strID [.int (j : Nat)] = some (.str (ij j)) := by
  show (if decide ((j : Int).natAbs.log2 < 1920) = true then some (D.str (toString (j : Int))) else none) = _
  rw [if_pos (ij_id j h)]; rfl
def jj (js : List Nat) : Str := Txt.join " " (js.map ij)
theorem join_jj {js : List Nat} (hl : js.length ≤ 12) (h : ∀ j ∈ js, j < 12) : joinSD " " [.lst (js.map fun j => D.str (ij j))] = some (.str (jj js)) := by
  show ((strsOf (js.map fun j => D.str (ij j))).bind fun ys => if (ys.map fun z => z.length).sum + ys.length * Str.length " " ≤ 1000000 then some (D.str (Txt.join " " ys)) else none) = _
  rw [Dl.strs_map]
  have e1 : ((js.map ij).map fun z => z.length).sum ≤ 2 * js.length := by
    clear hl
    induction js with
    | nil => exact Nat.le_refl _
    | cons b bs ih =>
      rw [List.map_cons, List.map_cons, List.sum_cons, List.length_cons]
      have := ih fun j q => h j (List.mem_cons_of_mem _ q)
      have := ij_len b (h b List.mem_cons_self)
      omega
  show (if ((js.map ij).map fun z => z.length).sum + (js.map ij).length * 1 ≤ 1000000 then some (D.str (jj js)) else none) = _
  rw [if_pos (by rw [List.length_map]; omega)]
theorem strs_ne {js : List Nat} (h : ∀ j ∈ js, j < 12) : neD (.lst (js.map fun j => D.str (ij j))) (.lst []) = some (.bl (!js.isEmpty)) := by
  refine (ne_lst_nil (ps := (js.map ij).map PyData.str) ?_ (shaped_strsL fun x hx => ?_)).trans ?_
  · rw [List.map_map]
    exact convL_map (fun j : Nat => D.str (ij j)) (fun j : Nat => PyData.str (ij j)) (fun _ => rfl) js
  · obtain ⟨j, hj, rfl⟩ := List.mem_map.mp hx
    exact ij_ok j (h j hj)
  · cases js <;> rfl
theorem jj_ok {js : List Nat} (h : ∀ j ∈ js, j < 12) : PyData.strOk (jj js) = true := join_ok " " (by decide +kernel) _ fun y hy => by
  obtain ⟨j, hj, rfl⟩ := List.mem_map.mp hy
  exact ij_ok j (h j hj)
/-! a desk -/
def aw (i : Nat) (bs : List Bool) : D := if bs = [] then .non else vD (an i bs)
theorem aw_nil (i : Nat) : aw i [] = .non := rfl
theorem aw_cons {i : Nat} {bs : List Bool} (h : bs ≠ []) : aw i bs = vD (an i bs) := if_neg h
def dk (C : Addr) (i : Nat) (bs : List Bool) : D := .dsk C (.str (wy i)) (row bs) (aw i bs)
section
variable {C : Addr} {i : Nat} {bs : List Bool} {ρ : List Sl} {s s1 : Tau} {k : Nat} {w r a z : D}
theorem fld_0 : fldD C 0 (.dsk C w r a) = some w := by show (if C = C then some w else none) = _; rw [if_pos rfl]
theorem fld_1 : fldD C 1 (.dsk C w r a) = some r := by show (if C = C then some r else none) = _; rw [if_pos rfl]
theorem fld_2 : fldD C 2 (.dsk C w r a) = some a := by show (if C = C then some a else none) = _; rw [if_pos rfl]
theorem f_way (h : ρ[k]? = some (.im (dk C i bs))) : dUn (fldD C 0) (dVar k) ρ s = some (.str (wy i), s) := un_of (var_at h) fld_0
theorem f_row (h : ρ[k]? = some (.im (dk C i bs))) : dUn (fldD C 1) (dVar k) ρ s = some (row bs, s) := un_of (var_at h) fld_1
theorem f_ans (h : ρ[k]? = some (.im (dk C i bs))) : dUn (fldD C 2) (dVar k) ρ s = some (aw i bs, s) := un_of (var_at h) fld_2
theorem prop_of {f : Fn} (h : ρ[k]? = some (.im (dk C i bs))) (h2 : f [dk C i bs] s = some ((z, false), s)) : dProp C f (dVar k) ρ s = some (z, s) := by
  unfold dProp
  rw [var_at h]
  show (if C = C then (f [dk C i bs] s).map fun r => (r.1.1, r.2) else none) = _
  rw [if_pos rfl, h2]; rfl
theorem mth_of {f : Fn} {ax : Da} {xs : List D} (h : ρ[k]? = some (.im (dk C i bs))) (hx : ax ρ s = some (xs, s)) (h2 : f (dk C i bs :: xs) s = some ((z, false), s)) : dMth C f (dVar k) ax ρ s = some (z, s) := by
  unfold dMth
  rw [var_at h]
  show (if C = C then (ax ρ s).bind fun q => (f (dk C i bs :: q.1) q.2).map fun r => (r.1.1, r.2) else none) = _
  rw [if_pos rfl, hx]
  show (f (dk C i bs :: xs) s).map (fun r => (r.1.1, r.2)) = _
  rw [h2]; rfl
theorem mr_of {f : Fnx} {ax : Da} {xs : List D} {o : Bool} (h : ρ[k]? = some (.im (dk C i bs))) (hx : ax ρ s = some (xs, s1)) (h2 : f (dk C i bs :: xs) s1 = some (.inl (z, o), s1)) : dMethR C f (dVar k) ax ρ s = some (.inl z, s1) := by
  unfold dMethR
  rw [var_at h]
  show (if C = C then (ax ρ s).bind fun q => (f (dk C i bs :: q.1) q.2).map _ else none) = _
  rw [if_pos rfl, hx]
  show (f (dk C i bs :: xs) s1).map _ = _
  rw [h2]; rfl
theorem mx_of {f : Fnx} {ax : Da} {xs : List D} {x : Exn} (h : ρ[k]? = some (.im (dk C i bs))) (hx : ax ρ s = some (xs, s1)) (h2 : f (dk C i bs :: xs) s1 = some (.inr x, s1)) : dMethR C f (dVar k) ax ρ s = some (.inr x, s1) := by
  unfold dMethR
  rw [var_at h]
  show (if C = C then (ax ρ s).bind fun q => (f (dk C i bs :: q.1) q.2).map _ else none) = _
  rw [if_pos rfl, hx]
  show (f (dk C i bs :: xs) s1).map _ = _
  rw [h2]; rfl
theorem ma_of {f : Fnx} {ax : Da} {xs : List D} {o : Bool} (h : ρ[k]? = some (.im (dk C i bs))) (hx : ax ρ s = some (xs, s1)) (h2 : f (dk C i bs :: xs) s1 = some (.inl (z, o), s1)) : dMethA C f (dVar k) ax ρ s = some (z, s1) := by
  unfold dMethA
  rw [mr_of h hx h2]; rfl
end
end Rk09
end
section
set_option Elab.async false
set_option linter.all false
set_option maxRecDepth 100000
set_option maxHeartbeats 4000000
open PySem L2 Dl PyProof.Rows
namespace Rk09
theorem signs_ok {bs : List Bool} (hl : bs.length ≤ 12) (s : Tau) : f_signs_of [row bs] s = some ((.str (tx bs), false), s) := by
  have lc := lc_all (g := gdName 1) (di := dItT (dVar 0)) (de := dIf (dB (dOp eqD (dVar 1) (dC c_ALLOW))) (dC (.str "+")) (dC (.str "-"))) (vs := [1]) (ρ := [.im (row bs), .un]) (s := s) vD gD bs (itT_of rfl rfl) (by omega) (fun b _ => ⟨_, rfl, by cases b <;> kernel_rfl⟩)
  exact fn_rt (ret_of (methS_of rfl (one_of lc) (join_g (by omega))))
theorem mt_lt {i : Nat} {bs : List Bool} (hl : bs.length ≤ 12) : ∀ j ∈ mt i bs, j < 12 := fun j hj => by
  have := List.mem_range.mp (List.mem_filter.mp hj).1
  omega
theorem mt_len {i : Nat} {bs : List Bool} (hl : bs.length ≤ 12) : (mt i bs).length ≤ 12 := by
  have := List.length_filter_le (fun j => !(an i (fl bs j) == an i bs)) (List.range bs.length)
  rw [List.length_range] at this
  exact Nat.le_trans this hl
/-- what a question answers -/
def mw (js : List Nat) : Str := if js.isEmpty then "none" else jj js
def qa (i : Nat) (bs : List Bool) (y : Str) : D := if y = "row" then .str (tx bs) else if y = "answer" then (if bs = [] then .str "none" else vD (an i bs)) else .str (mw (mt i bs))
section
variable {C : Addr} {i : Nat} {bs : List Bool} {s : Tau}
theorem told_row (hl : bs.length ≤ 12) : f_Desk__told C [dk C i bs, .str "row"] s = some ((.str (tx bs), false), s) :=
  fn_rt (seq_ifT (s1 := s) (b_of (by kernel_rfl)) (ret_of (call_of (one_of (f_row (k := 0) rfl)) (signs_ok hl s))))
theorem told_answer : f_Desk__told C [dk C i bs, .str "answer"] s = some ((if bs = [] then .str "none" else vD (an i bs), false), s) := by
  have hb : dB (dUn isN (dUn (fldD C 2) (dVar 0))) [.im (dk C i bs), .im (.str "answer"), .un, .un] s = some (decide (bs = []), s) := by
    refine b_of (un_of (f_ans (k := 0) rfl) ?_)
    cases bs with
    | nil => rfl
    | cons => rw [aw_cons (by simp)]; rfl
  refine fn_rt (seq_ifF (s1 := s) (b_of (by kernel_rfl)) (seq_ifT (s1 := s) (b_of (by kernel_rfl)) (ret_of ?_)))
  cases bs with
  | nil => exact iteT (s1 := s) hb rfl
  | cons b r =>
    refine iteF (s1 := s) hb ?_
    have e := f_ans (C := C) (i := i) (bs := b :: r) (ρ := [.im (dk C i (b :: r)), .im (.str "answer"), .un, .un]) (s := s) (k := 0) rfl
    rw [aw_cons (by simp)] at e
    exact e
theorem told_matters (hi : i < 13) (hl : bs.length ≤ 12) : f_Desk__told C [dk C i bs, .str "matters"] s = some ((.str (mw (mt i bs)), false), s) := by
  have a1 : dIf (dB (dOp neD (dUn (fldD C 1) (dVar 0)) (dTup dNil))) (dCall f_matters (dCons (dUn (fldD C 0) (dVar 0)) (dCons (dUn (fldD C 1) (dVar 0)) dNil))) (dTup dNil) [.im (dk C i bs), .im (.str "matters"), .un, .un] s = some (.tup ((mt i bs).map fun j : Nat => D.int j), s) := by
    have hb : dB (dOp neD (dUn (fldD C 1) (dVar 0)) (dTup dNil)) [.im (dk C i bs), .im (.str "matters"), .un, .un] s = some (!bs.isEmpty, s) := b_of (op_of (f_row (k := 0) rfl) (tup_of rfl (by show 0 ≤ 1000000; decide)) (row_ne bs))
    cases bs with
    | nil => exact iteF (s1 := s) hb (tup_of rfl (by show 0 ≤ 1000000; decide))
    | cons b r => exact iteT (s1 := s) hb (call_of (cons_of (f_way (k := 0) rfl) (one_of (f_row (k := 0) rfl))) (matters_ok hi (by simp) hl s))
  have hb : dB (dOp neD (dVar 2) (dTup dNil)) [.im (dk C i bs), .im (.str "matters"), .im (.tup ((mt i bs).map fun j : Nat => D.int j)), .un] s = some (!(mt i bs).isEmpty, s) := b_of (op_of rfl (tup_of rfl (by show 0 ≤ 1000000; decide)) (nats_ne _))
  refine fn_rt (seq_ifF (s1 := s) (b_of (by kernel_rfl)) (seq_ifF (s1 := s) (b_of (by kernel_rfl)) (seq_ifT (s1 := s) (b_of (by kernel_rfl)) (seq_nx (ρ1 := [.im (dk C i bs), .im (.str "matters"), .im (.tup ((mt i bs).map fun j : Nat => D.int j)), .un]) (asg_of a1) (ret_of ?_)))))
  have lc := lc_all (g := gdName 3) (di := dItT (dVar 2)) (de := dCallB strID (dCons (dVar 3) dNil)) (vs := [3]) (ρ := [.im (dk C i bs), .im (.str "matters"), .im (.tup ((mt i bs).map fun j : Nat => D.int j)), .un]) (s := s) (fun j : Nat => D.int j) (fun j => D.str (ij j)) (mt i bs) (itT_of rfl rfl) (by have := mt_len (i := i) hl; omega) (fun j hj => ⟨_, rfl, callB_of (one_of rfl) (str_ij (mt_lt hl j hj))⟩)
  unfold mw
  cases hm : (mt i bs).isEmpty with
  | true =>
    rw [hm] at hb
    exact iteF (s1 := s) hb rfl
  | false =>
    rw [hm] at hb
    exact iteT (s1 := s) hb (methS_of rfl (one_of lc) (join_jj (mt_len hl) (mt_lt hl)))
/-- other texts -/
theorem told_none {y : Str} (h1 : eqD (.str y) (.str "row") = some (.bl false)) (h2 : eqD (.str y) (.str "answer") = some (.bl false)) (h3 : eqD (.str y) (.str "matters") = some (.bl false)) : f_Desk__told C [dk C i bs, .str y] s = some ((.non, false), s) :=
  fn_rt (seq_ifF (s1 := s) (b_of (op_of rfl rfl h1)) (seq_ifF (s1 := s) (b_of (op_of rfl rfl h2)) (seq_ifF (s1 := s) (b_of (op_of rfl rfl h3)) (ret_of rfl))))
theorem told_v (b : Bool) : f_Desk__told C [dk C i bs, vD b] s = some ((.non, false), s) := by
  cases b <;> exact told_none (by kernel_rfl) (by kernel_rfl) (by kernel_rfl)
theorem need_text_ok (y : Str) : fx_need_text [.str y] s = some (.inl (.non, false), s) := x_fnN (x_nx (x_ifF (s1 := s) (Dl.not_of (b := true) (b_of (un_of rfl rfl))) rfl) rfl)
/-! run -/
theorem run_told {y z : Str} (h : f_Desk__told C [dk C i bs, .str y] s = some ((.str z, false), s)) : fx_Desk_run C [dk C i bs, .str y] s = some (.inl (.str z, false), s) :=
  x_fnR (x_nx (x_expr (x_call (one_of rfl) (need_text_ok y))) (x_nx (ρ1 := [.im (dk C i bs), .im (.str y), .im (.str z)]) (x_lift (asg_of (mth_of (k := 0) rfl (one_of rfl) h))) (x_rt (x_lift (ifT (s1 := s) (b_of (un_of rfl rfl)) (ret_of rfl))))))
theorem run_row (hl : bs.length ≤ 12) : fx_Desk_run C [dk C i bs, .str "row"] s = some (.inl (.str (tx bs), false), s) := run_told (told_row hl)
theorem run_answer : fx_Desk_run C [dk C i bs, .str "answer"] s = some (.inl (if bs = [] then .str "none" else vD (an i bs), false), s) := by
  have e := told_answer (C := C) (i := i) (bs := bs) (s := s)
  by_cases h : bs = []
  · rw [if_pos h] at e ⊢; exact run_told e
  · rw [if_neg h] at e ⊢; exact run_told e
theorem run_matters (hi : i < 13) (hl : bs.length ≤ 12) : fx_Desk_run C [dk C i bs, .str "matters"] s = some (.inl (.str (mw (mt i bs)), false), s) := run_told (told_matters hi hl)
theorem run_pass {y : D} {r : Option (Rx × Tau)} {b : Dxs} (hy : fx_need_text [y] s = some (.inl (.non, false), s)) (h : f_Desk__told C [dk C i bs, y] s = some ((.non, false), s)) (h2 : b [.im (dk C i bs), .im y, .im .non] s = r) :
    dxSeq (dxExpr (dCallR fx_need_text (dCons (dVar 1) dNil))) (dxSeq (dxLift (dAsg (dMth C (f_Desk__told C) (dVar 0) (dCons (dVar 1) dNil)) (gdName 2))) (dxSeq (dxLift (dIfS (dB (dUn notN (dVar 2))) (dRet (dVar 2)) dNext)) b)) [.im (dk C i bs), .im y, .un] s = r :=
  x_nx (x_expr (x_call (one_of rfl) hy)) (x_nx (ρ1 := [.im (dk C i bs), .im y, .im .non]) (x_lift (asg_of (mth_of (k := 0) rfl (one_of rfl) h))) (x_nx (x_lift (ifF (s1 := s) (b_of (un_of rfl rfl)) rfl)) h2))
theorem run_invalid {y : Str} (h1 : eqD (.str y) (.str "row") = some (.bl false)) (h2 : eqD (.str y) (.str "answer") = some (.bl false)) (h3 : eqD (.str y) (.str "matters") = some (.bl false)) (h4 : ninD (.str y) c_VOICES = some (.bl true)) : fx_Desk_run C [dk C i bs, .str y] s = some (.inr ⟨"InvalidText", none⟩, s) :=
  x_fnX (run_pass (need_text_ok y) (told_none h1 h2 h3) (x_xc (x_ifT (s1 := s) (b_of (op_of rfl rfl h4)) (x_xc x_raise))))
theorem run_text {y : D} (h : isiD "str" y = some (.bl false)) : fx_Desk_run C [dk C i bs, y] s = some (.inr ⟨"NotText", none⟩, s) :=
  x_fnX (x_xc (x_exprX (x_callX (one_of rfl) (x_fnX (x_xc (x_ifT (s1 := s) (Dl.not_of (b := false) (b_of (un_of rfl h))) (x_xc x_raise)))))))
theorem len_eq {n : Nat} (h : bs.length = n) : dB (dOp eqD (dCallB lenD (dCons (dUn (fldD C 1) (dVar 0)) dNil)) (dC c_MOST_ROW)) [.im (dk C i bs), .im (vD true), .im .non] s = some (decide (n = 12), s) := by
  refine b_of (op_of (callB_of (one_of (f_row (k := 0) rfl)) (len_row bs)) rfl ?_)
  rw [h]
  by_cases e : n = 12
  · subst e; kernel_rfl
  · rw [decide_eq_false e]; exact eq_int_ne (by omega)
theorem nin_v (b : Bool) : ninD (vD b) c_VOICES = some (.bl false) := by cases b <;> kernel_rfl
theorem len_eq' {y : D} : dB (dOp eqD (dCallB lenD (dCons (dUn (fldD C 1) (dVar 0)) dNil)) (dC c_MOST_ROW)) [.im (dk C i bs), .im y, .im .non] s = some (decide (bs.length = 12), s) := by
  refine b_of (op_of (callB_of (one_of (f_row (k := 0) rfl)) (len_row bs)) rfl ?_)
  by_cases e : bs.length = 12
  · rw [e]; kernel_rfl
  · rw [decide_eq_false e]; exact eq_int_ne (by omega)
theorem need_text_v (b : Bool) : fx_need_text [vD b] s = some (.inl (.non, false), s) := need_text_ok _
theorem run_now (b : Bool) (hl : bs.length = 12) : fx_Desk_run C [dk C i bs, vD b] s = some (.inr ⟨"NotNow", none⟩, s) :=
  x_fnX (run_pass (need_text_v b) (told_v b) (x_nx (x_ifF (s1 := s) (b_of (op_of rfl rfl (nin_v b))) rfl) (x_xc (x_ifT (s1 := s) (len_eq'.trans (by rw [hl]; rfl)) (x_xc x_raise)))))
theorem undo_none : fx_Desk_undo C [dk C i []] s = some (.inr ⟨"NothingToUndo", none⟩, s) :=
  x_fnX (x_xc (x_ifT (s1 := s) (b_of (op_of (f_row (k := 0) rfl) (tup_of rfl (by show 0 ≤ 1000000; decide)) (row_eq []))) (x_xc x_raise)))
/-! what is laid -/
theorem lay_val (hi : i < 13) (r : List Bool) (hr : r.length ≤ 12) : fl_Desk C (.str (wy i)) (aw i bs) (row r) s = some (aw i r, s) := by
  have hb : dB (dOp neD (dVar 1) (dTup dNil)) [.im (.dsk C (.str (wy i)) (row r) (aw i bs)), .im (row r)] s = some (!r.isEmpty, s) := b_of (op_of rfl (tup_of rfl (by show 0 ≤ 1000000; decide)) (row_ne r))
  unfold fl_Desk dl_Desk
  cases r with
  | nil => exact iteF (s1 := s) hb rfl
  | cons b r =>
    rw [aw_cons (bs := b :: r) (by simp)]
    exact iteT (s1 := s) hb (call_of (cons_of (un_of rfl fld_0) (one_of rfl)) (answer_of_ok (by simp) s hr i hi))
theorem init_val (hi : i < 13) : fi_Desk C (.str (wy i)) s = some ((.tup [], .non), s) := by
  unfold fi_Desk initD
  rw [way_ok i hi s]
  show ((dl_Desk C [.im (.fn .non), .im (.tup [])] s).bind fun q => if nod q.1 = true then some ((D.tup [], q.1), q.2) else none) = _
  have hb : dB (dOp neD (dVar 1) (dTup dNil)) [.im (.fn .non), .im (row [])] s = some (false, s) := b_of (op_of rfl (tup_of rfl (by show 0 ≤ 1000000; decide)) (row_ne []))
  have e : dl_Desk C [.im (.fn .non), .im (.tup [])] s = some (.non, s) := iteF (s1 := s) hb rfl
  rw [e]; rfl
theorem nod_row (r : List Bool) : nod (row r) = true := by
  show nodL (r.map vD) = true
  induction r with
  | nil => rfl
  | cons b r ih => show (nod (vD b) && nodL (r.map vD)) = true; rw [ih]; rfl
theorem nod_aw (r : List Bool) : nod (aw i r) = true := by
  cases r with
  | nil => rfl
  | cons => rfl
theorem m_drop {da : Dn} {b : DMs} {ρ : List Sl} {d : D} {r : Option ((D × D × D) × Tau)} (h : da ρ s = some (d, s)) (h2 : b ρ s = r) : dmCons (dpDrop da) b ρ s = r := by unfold dmCons dpDrop; rw [h]; exact h2
theorem m_set {k : Nat} {da : Dn} {b : DMs} {ρ : List Sl} {d : D} {r : Option ((D × D × D) × Tau)} (h : da ρ s = some (d, s)) (h2 : b (ρ.set k (.im d)) s = r) : dmCons (dpSet k da) b ρ s = r := by unfold dmCons dpSet; rw [h]; exact h2
theorem m_if {bt : Dt} {b : DMs} {ρ : List Sl} {r : Option ((D × D × D) × Tau)} (h : bt ρ s = some (false, s)) (h2 : b ρ s = r) : dmCons (dpIf bt) b ρ s = r := by unfold dmCons dpIf; rw [h]; exact h2
theorem m_lay (hi : i < 13) {ρ : List Sl} {ax : Da} {r : List Bool} (h0 : ρ[0]? = some (.im (dk C i bs))) (h : ax ρ s = some ([row r], s)) (hr : r.length ≤ 12) : dmLay C (fl_Desk C) ax ρ s = some ((.str (wy i), row r, aw i r), s) := by
  unfold dmLay
  rw [h0]
  show (if C = C ∧ nod (D.str (wy i)) = true ∧ nod (row bs) = true ∧ nod (aw i bs) = true then (ax ρ s).bind fun p => match p.1 with
    | [row] => if nod row = true then (fl_Desk C (.str (wy i)) (aw i bs) row p.2).bind fun q => if nod q.1 = true then some ((D.str (wy i), row, q.1), q.2) else none else none
    | _ => none else none) = _
  rw [if_pos ⟨rfl, rfl, nod_row bs, nod_aw bs⟩, h]
  show (if nod (row r) = true then (fl_Desk C (.str (wy i)) (aw i bs) (row r) s).bind fun q => if nod q.1 = true then some ((D.str (wy i), row r, q.1), q.2) else none else none) = _
  rw [if_pos (nod_row r), lay_val hi r hr]
  show (if nod (aw i r) = true then some ((D.str (wy i), row r, aw i r), s) else none) = _
  rw [if_pos (nod_aw r)]
theorem run_adds (hi : i < 13) (b : Bool) (hl : bs.length < 12) : fm_Desk_run C [dk C i bs, vD b] s = some ((.str (wy i), row (bs ++ [b]), aw i (bs ++ [b])), s) := by
  unfold fm_Desk_run dm_Desk_run
  refine m_drop (d := .non) (x_callA (one_of rfl) (need_text_v b)) (m_set (d := .non) (mth_of (k := 0) rfl (one_of rfl) (told_v b)) (m_if (b_of (un_of rfl rfl)) (m_if (b_of (op_of rfl rfl (nin_v b))) (m_if (len_eq'.trans (by rw [decide_eq_false (by omega)])) (m_lay hi rfl (one_of (tup_of (xs := (bs ++ [b]).map vD) ?_ ?_)) ?_)))))
  · rw [List.map_append]
    exact star_of (f_row (k := 0) rfl) rfl (one_of rfl)
  · rw [List.length_map, List.length_append, List.length_cons, List.length_nil]; omega
  · rw [List.length_append, List.length_cons, List.length_nil]; omega
theorem ix_last (n d : Nat) : HT.sIx n d (some (-1)) = n - 1 := by
  show (if (-1 : Int) < 0 then ((-1 : Int) + (n : Int)).toNat else min (-1 : Int).toNat n) = _
  rw [if_pos (by decide)]; omega
theorem cut_last {α : Type} (xs : List α) : cutL xs none (some (-1)) = xs.dropLast := by
  unfold cutL
  rw [HT.sIx_none, ix_last, List.drop_zero, Nat.sub_zero, List.dropLast_eq_take]
theorem slF_row (h0 : bs ≠ []) : slF (row bs) none (some (-1)) = some (row bs.dropLast) := by
  show (if HT.sIx (bs.map vD).length 0 none = 0 ∧ HT.sIx (bs.map vD).length (bs.map vD).length (some (-1)) = (bs.map vD).length then none else some (D.tup (cutL (bs.map vD) none (some (-1))))) = _
  have hp := List.length_pos_iff.mpr h0
  rw [if_neg (by rw [ix_last, List.length_map]; omega), row_cut, cut_last]; rfl
theorem slF_of {lo hi : Do} {l h : Option Int} {s1 s2 s3 : Tau} {da : Dn} {ρ : List Sl} {x z : D} (h1 : da ρ s = some (x, s1)) (h2 : lo ρ s1 = some (l, s2)) (h3 : hi ρ s2 = some (h, s3)) (h4 : slF x l h = some z) : dSl slF da lo hi ρ s = some (z, s3) := by
  unfold dSl
  rw [h1]
  show Option.bind (lo ρ s1) _ = _
  rw [h2]
  show Option.bind (hi ρ s2) _ = _
  rw [h3]
  show Option.map _ (slF x l h) = _
  rw [h4]; rfl
theorem undo_val (hi : i < 13) (h0 : bs ≠ []) (hl : bs.length ≤ 12) : fm_Desk_undo C [dk C i bs] s = some ((.str (wy i), row bs.dropLast, aw i bs.dropLast), s) := by
  unfold fm_Desk_undo dm_Desk_undo
  have hb : dB (dOp eqD (dUn (fldD C 1) (dVar 0)) (dTup dNil)) [.im (dk C i bs)] s = some (false, s) := b_of ((op_of (f_row (k := 0) rfl) (tup_of rfl (by show 0 ≤ 1000000; decide)) (row_eq bs)).trans (by cases bs with
    | nil => exact absurd rfl h0
    | cons => rfl))
  refine m_if hb (m_lay hi rfl (one_of ?_) (by rw [List.length_dropLast]; omega))
  exact slF_of (f_row (k := 0) rfl) rfl rfl (slF_row h0)
end
end Rk09
end
section
set_option Elab.async false
set_option linter.all false
set_option maxRecDepth 100000
set_option maxHeartbeats 4000000
open PySem L2 Dl PyProof.Rows
namespace Rk09
theorem ne_self {x : Str} (h : PyData.strOk x = true) : neD (.str x) (.str x) = some (.bl false) := by
  rw [neD_str h h, beq_self_eq_true]; rfl
theorem eq_self {x : Str} (h : PyData.strOk x = true) : eqD (.str x) (.str x) = some (.bl true) := by
  rw [eqD_str h h, beq_self_eq_true]
theorem tx_ne (bs : List Bool) : neD (.str (tx bs)) (.str "") = some (.bl (!bs.isEmpty)) := by
  cases bs with
  | nil => kernel_rfl
  | cons b r =>
    rw [neD_str (strOk_tx (b :: r)) (by decide +kernel)]
    have e : (tx (b :: r) == ("" : Str)) = false := by
      rw [beq_eq_false_iff_ne]
      intro e
      have e2 := congrArg Str.length e
      rw [tx_len] at e2
      exact absurd e2 (by show ¬(r.length + 1 = 0); omega)
    rw [e]; rfl
theorem mw_ok {js : List Nat} (h : ∀ j ∈ js, j < 12) : PyData.strOk (mw js) = true := by
  unfold mw
  split
  · decide +kernel
  · exact jj_ok h
def hw (i : Nat) (bs : List Bool) : D := if bs = [] then .non else gD (an i bs)
theorem hw_cons {i : Nat} {bs : List Bool} (h : bs ≠ []) : hw i bs = gD (an i bs) := if_neg h
section
variable {C : Addr} {i : Nat} {bs : List Bool} {s : Tau}
theorem alike_desk (hl : bs.length ≤ 12) : f__law_alike 4 [.lst [row bs, aw i bs], .lst [row bs, aw i bs]] s = some ((.bl true, false), s) := by
  obtain ⟨p, h1, h2, h3, h4⟩ : ∃ p : PyData, (aw i bs).conv = some p ∧ p.canLay0 = true ∧ p.depth = 0 ∧ Sm p := by
    by_cases h : bs = []
    · rw [show aw i bs = .non from if_pos h]; exact ⟨.none, rfl, rfl, rfl, .none⟩
    · rw [aw_cons h]; exact ⟨.str (vs (an i bs)), rfl, vs_ok _, rfl, .str _⟩
  have e : (D.lst [row bs, aw i bs]).conv = some (.list [.tuple ((bs.map vs).map PyData.str), p]) := by
    have hr : (row bs).conv = some (.tuple ((bs.map vs).map PyData.str)) := by show (convL (bs.map vD)).map PyData.tuple = _; rw [conv_row]; rfl
    have e2 : convL [row bs, aw i bs] = some [.tuple ((bs.map vs).map PyData.str), p] := by
      show ((row bs).conv.bind fun x => (((aw i bs).conv.bind fun y => (some []).map (y :: ·))).map (x :: ·)) = _
      rw [hr, h1]; rfl
    show (convL [row bs, aw i bs]).map PyData.list = _
    rw [e2]; rfl
  refine alike_ok 4 _ _ _ s e e ?_ ?_ (.lst (by show 2 ≤ 1000000; decide) fun q hq => ?_)
  · show (PyData.canLayAll0 ((bs.map vs).map PyData.str) && (p.canLay0 && true)) = true
    rw [lay_strs (vs_all bs), h2]; rfl
  · show max (PyData.depthAll ((bs.map vs).map PyData.str) + 1) (max p.depth 0) + 1 < 4
    rw [depth_strs, h3]; decide
  · simp only [List.mem_cons, List.not_mem_nil, or_false] at hq
    rcases hq with rfl | rfl
    · refine .tup (by rw [List.length_map, List.length_map]; omega) fun z hz => ?_
      obtain ⟨x, _, rfl⟩ := List.mem_map.mp hz
      exact .str x
    · exact h4
theorem hw_non {ρ : List Sl} (h : ρ[3]? = some (.im (hw i bs))) : dB (dUn notN (dVar 3)) ρ s = some (!bs.isEmpty, s) := by
  refine b_of (un_of (var_at h) ?_)
  cases bs with
  | nil => rfl
  | cons => rw [hw_cons (by simp)]; rfl
theorem said_here (d : D) {ρ : List Sl} (h : ρ[3]? = some (.im (hw i bs))) : dIf (dB (dUn notN (dVar 3))) (dCall f__law_word (dCons (dVar 3) dNil)) (dC d) ρ s = some (if bs = [] then d else vD (an i bs), s) := by
  have e := hw_non (i := i) (bs := bs) (s := s) h
  cases bs with
  | nil => exact iteF (s1 := s) e rfl
  | cons b r =>
    have hv := var_at (s := s) h
    rw [hw_cons (by simp)] at hv
    exact iteT (s1 := s) e (call_of (one_of hv) (word_ok _ s))
theorem shown_ok (hi : i < 13) (hl : bs.length ≤ 12) : f__law_shown C [dk C i bs, .str (wy i), .str (tx bs)] s = some ((.bl true, false), s) := by
  have a1 : dIf (dB (dOp neD (dVar 2) (dC (.str "")))) (dCall f__law_answer (dCons (dVar 1) (dCons (dVar 2) dNil))) (dC .non) [.im (dk C i bs), .im (.str (wy i)), .im (.str (tx bs)), .un, .un, .un] s = some (hw i bs, s) := by
    have hb : dB (dOp neD (dVar 2) (dC (.str ""))) [.im (dk C i bs), .im (.str (wy i)), .im (.str (tx bs)), .un, .un, .un] s = some (!bs.isEmpty, s) := b_of (op_of rfl rfl (tx_ne bs))
    cases bs with
    | nil => exact iteF (s1 := s) hb rfl
    | cons b r =>
      rw [hw_cons (by simp)]
      exact iteT (s1 := s) hb (call_of (cons_of rfl (one_of rfl)) (lanswer_ok (by simp) s hl i hi))
  refine fn_rt (seq_nx (ρ1 := [.im (dk C i bs), .im (.str (wy i)), .im (.str (tx bs)), .im (hw i bs), .un, .un]) (asg_of a1) ?_)
  have p1 : dLst (dCons (dProp C (f_Desk_row C) (dVar 0)) (dCons (dProp C (f_Desk_answer C) (dVar 0)) dNil)) [.im (dk C i bs), .im (.str (wy i)), .im (.str (tx bs)), .im (hw i bs), .un, .un] s = some (.lst [row bs, aw i bs], s) :=
    lst_of (cons_of (prop_of (k := 0) rfl (fn_rt (ret_of (f_row (k := 0) rfl)))) (one_of (prop_of (k := 0) rfl (fn_rt (ret_of (f_ans (k := 0) rfl)))))) (by show 2 ≤ 1000000; decide)
  have p2 : dLst (dCons (dCall f__law_voices (dCons (dVar 2) dNil)) (dCons (dIf (dB (dUn notN (dVar 3))) (dCall f__law_word (dCons (dVar 3) dNil)) (dC .non)) dNil)) [.im (dk C i bs), .im (.str (wy i)), .im (.str (tx bs)), .im (hw i bs), .un, .un] s = some (.lst [row bs, aw i bs], s) :=
    lst_of (cons_of (call_of (one_of rfl) (voices_ok (by omega) s)) (one_of (said_here .non rfl))) (by show 2 ≤ 1000000; decide)
  refine seq_ifF (s1 := s) (Dl.not_of (b := true) (b_of (call_of (cons_of p1 (one_of p2)) (alike_desk hl)))) ?_
  have q1 : dB (dOp neD (dMethA C (fx_Desk_run C) (dVar 0) (dCons (dC (.str "row")) dNil)) (dVar 2)) [.im (dk C i bs), .im (.str (wy i)), .im (.str (tx bs)), .im (hw i bs), .un, .un] s = some (false, s) :=
    b_of (op_of (ma_of (k := 0) rfl (one_of rfl) (run_row hl)) rfl (ne_self (strOk_tx bs)))
  have q2 : dB (dOp neD (dMethA C (fx_Desk_run C) (dVar 0) (dCons (dC (.str "answer")) dNil)) (dIf (dB (dUn notN (dVar 3))) (dCall f__law_word (dCons (dVar 3) dNil)) (dC (.str "none")))) [.im (dk C i bs), .im (.str (wy i)), .im (.str (tx bs)), .im (hw i bs), .un, .un] s = some (false, s) :=
    b_of (op_of (ma_of (k := 0) rfl (one_of rfl) run_answer) (said_here (.str "none") rfl) (by
      by_cases h : bs = []
      · rw [if_pos h]; kernel_rfl
      · rw [if_neg h]; exact ne_self (vs_ok _)))
  refine seq_ifF (s1 := s) (orF_of q1 q2) ?_
  have lc := lc_map (g := gdName 5) (di := dRng1 (dCons (dCallB lenD (dCons (dVar 2) dNil)) dNil)) (bt := dB (dOp neD (dCall f__law_answer (dCons (dVar 1) (dCons (dCall f__law_flip (dCons (dVar 2) (dCons (dVar 5) dNil))) dNil))) (dVar 3))) (de := dCallB strID (dCons (dVar 5) dNil)) (vs := [5])
    (ρ := [.im (dk C i bs), .im (.str (wy i)), .im (.str (tx bs)), .im (hw i bs), .un, .un]) (s := s) (fun j : Nat => D.int j) (fun j => !(an i (fl bs j) == an i bs)) (fun j : Nat => D.str (ij j)) (List.range bs.length)
    (rng1_of (one_of (callB_of (one_of rfl) (len_tx (by omega)))) (by omega)) (by rw [List.length_range]; omega) (fun j hj => by
      have hj := List.mem_range.mp hj
      have h0 : bs ≠ [] := fun e => by rw [e] at hj; cases hj
      obtain ⟨b, hb⟩ : ∃ b, bs[j]? = some b := ⟨_, List.getElem?_eq_getElem hj⟩
      refine ⟨[.im (dk C i bs), .im (.str (wy i)), .im (.str (tx bs)), .im (hw i bs), .un, .im (.int (j : Nat))], rfl, b_of (op_of (call_of (cons_of rfl (one_of (call_of (cons_of rfl (one_of rfl)) (flip_ok (by omega) hb s)))) (lanswer_ok (fl_ne h0 j) s (by rw [fl_len]; exact hl) i hi)) rfl ?_), fun _ => callB_of (one_of rfl) (str_ij (by omega))⟩
      rw [hw_cons h0]
      exact ne_g _ _)
  refine seq_nx (ρ1 := [.im (dk C i bs), .im (.str (wy i)), .im (.str (tx bs)), .im (hw i bs), .im (.lst ((mt i bs).map fun j => D.str (ij j))), .un]) (asg_of lc) (ret_of (op_of (y := .str (mw (mt i bs))) (ma_of (k := 0) rfl (one_of rfl) (run_matters hi hl)) ?_ (eq_self (mw_ok (mt_lt hl)))))
  have hb : dB (dOp neD (dVar 4) (dLst dNil)) [.im (dk C i bs), .im (.str (wy i)), .im (.str (tx bs)), .im (hw i bs), .im (.lst ((mt i bs).map fun j => D.str (ij j))), .un] s = some (!(mt i bs).isEmpty, s) := b_of (op_of rfl (lst_of rfl (by show 0 ≤ 1000000; decide)) (strs_ne (mt_lt hl)))
  unfold mw
  cases hm : (mt i bs).isEmpty with
  | true =>
    rw [hm] at hb
    exact iteF (s1 := s) hb rfl
  | false =>
    rw [hm] at hb
    exact iteT (s1 := s) hb (methS_of rfl (one_of rfl) (join_jj (mt_len hl) (mt_lt hl)))
end
/-! lent, told -/
section
variable {C : Addr} {i : Nat} {bs : List Bool} {s s1 s2 : Tau} {ρ : List Sl} {cl : List (Str × Addr)} {T : List (Nat × Dxe)} {da : Dn} {dx : Dxe} {x : Exn} {d z : D} {n : Nat}
theorem lend_of (h : ρ[4]? = some (.ow (dk C i bs))) (h2 : da (ρ.set 4 (.im (dk C i bs))) s = some (z, s1)) (hz : nod z = true) : dLend 4 da ρ s = some (z, s1) := by
  unfold dLend lend
  rw [h]
  show (da (ρ.set 4 (.im (dk C i bs))) s).bind (fun p => if nod p.1 = true then some p else none) = _
  rw [h2]
  show (if nod z = true then some (z, s1) else none) = _
  rw [if_pos hz]
theorem lendX_of (h : ρ[4]? = some (.ow (dk C i bs))) (h2 : dx (ρ.set 4 (.im (dk C i bs))) s = some (.inr x, s1)) (hz : x.ix = none) : dLendX 4 dx ρ s = some (.inr x, s1) := by
  unfold dLendX lend
  rw [h]
  show (dx (ρ.set 4 (.im (dk C i bs))) s).bind _ = _
  rw [h2]
  show (if x.ix = none then some (Sum.inr x, s1) else none) = _
  rw [if_pos hz]
theorem told_at (ha : da ρ s = some (.clo n cl, s1)) (hl : T.lookup n = some dx) (hx : dx ρ s1 = some (.inr x, s2)) (h : toldEnd NM 3 dsu x s2 = some (d, s2)) : dTold T cl NM 3 dsu da ρ s = some (d, s2) := by
  unfold dTold
  rw [ha]
  show (if cl = cl then (List.lookup n T).bind (fun dx => (dx ρ s1).bind fun r => match r.1 with
      | .inl _ => some (D.str "", r.2)
      | .inr x => toldEnd NM 3 dsu x r.2) else none) = _
  rw [if_pos rfl, hl]
  show (dx ρ s1).bind (fun r => match r.1 with
      | .inl _ => some (D.str "", r.2)
      | .inr x => toldEnd NM 3 dsu x r.2) = _
  rw [hx]
  exact h
theorem lam_of (h0 : ρ[0]? = some (.im .tb)) (n : Nat) : dLam n cl ρ s = some (.clo n cl, s) := by unfold dLam; rw [h0]
theorem isZn (b : Bool) (f : V) (a : Addr) (z : Sl) (s : Tau) : dIsZ b 1 a none [.im (.fn f), .im (.fn (.ref a)), z] s = some (.bl b, s) := by
  show (if a = a ∧ (none : Option Addr) = none then some (D.bl b, s) else none) = _
  rw [if_pos ⟨rfl, rfl⟩]
theorem end_own (nm w : Str) (hm : (nm, false) ∈ NM)
    (h2 : ∀ (f : V) (a : Addr) (s : Tau), dRet (dIf (dB (dOp eqD (dMethL blCntD (dVar 2) (dCons (dC (.bl true)) dNil)) (dC (.int 1)))) (dOp ixD (dLst (dCons (dC (.str "invalid")) (dCons (dC (.str "now")) (dCons (dC (.str "text")) (dCons (dC (.str "undo")) dNil))))) (dMethL blIxD (dVar 2) (dCons (dC (.bl true)) dNil))) (dC (.str "other"))) [.im (.fn f), .im (.fn (.ref a)), .im (.lst [.bl (kb_InvalidText nm), .bl (kb_NotNow nm), .bl (kb_NotText nm), .bl (kb_NothingToUndo nm)])] s = some (.rt (.str w) false, s)) (s : Tau) :
    toldEnd NM 3 dsu ⟨nm, none⟩ s = some (.str w, s) :=
  toldEnd_of hm fun f a dd => seq_nx (asg_of (lst_of (cons_of (isZn _ f a .un s) (cons_of (isZn _ f a .un s) (cons_of (isZn _ f a .un s) (one_of (isZn _ f a .un s))))) (by show 4 ≤ 1000000; decide))) (h2 f a s)
theorem end_invalid (s : Tau) : toldEnd NM 3 dsu ⟨"InvalidText", none⟩ s = some (.str "invalid", s) := end_own _ _ (by decide) (fun f a s => by kernel_rfl) s
theorem end_now (s : Tau) : toldEnd NM 3 dsu ⟨"NotNow", none⟩ s = some (.str "now", s) := end_own _ _ (by decide) (fun f a s => by kernel_rfl) s
theorem end_text (s : Tau) : toldEnd NM 3 dsu ⟨"NotText", none⟩ s = some (.str "text", s) := end_own _ _ (by decide) (fun f a s => by kernel_rfl) s
theorem end_undo (s : Tau) : toldEnd NM 3 dsu ⟨"NothingToUndo", none⟩ s = some (.str "undo", s) := end_own _ _ (by decide) (fun f a s => by kernel_rfl) s
def badI : List D := [.str "", .str "Allow", .str "deny ", .str "+", .str "allow deny", .str "answer "]
theorem inv_bad : ∀ d ∈ badI, ∀ s : Tau, fx_Desk_run C [dk C i bs, d] s = some (.inr ⟨"InvalidText", none⟩, s) := fun d h s => by
  simp only [badI, List.mem_cons, List.not_mem_nil, or_false] at h
  rcases h with rfl | rfl | rfl | rfl | rfl | rfl <;> exact run_invalid (by kernel_rfl) (by kernel_rfl) (by kernel_rfl) (by kernel_rfl)
def badT : List D := [.non, .int 5, .lst [.str "deny"], .tup [.str "deny"]]
theorem text_bad : ∀ d ∈ badT, ∀ s : Tau, fx_Desk_run C [dk C i bs, d] s = some (.inr ⟨"NotText", none⟩, s) := fun d h s => by
  simp only [badT, List.mem_cons, List.not_mem_nil, or_false] at h
  rcases h with rfl | rfl | rfl | rfl <;> exact run_text (by kernel_rfl)
theorem st_undo (h0 : ρ[0]? = some (.im .tb)) (h4 : ρ[4]? = some (.ow (dk C i []))) (hl : 4 < ρ.length) : dTold [(0, dx_lam0 C)] cl NM 3 dsu (dLam 0 cl) ρ s = some (.str "undo", s) :=
  told_at (lam_of h0 0) rfl (lendX_of h4 (mx_of (k := 4) (List.getElem?_set_self hl) rfl undo_none) rfl) (end_undo s)
theorem st_invalid (h0 : ρ[0]? = some (.im .tb)) (h1 : ρ[1]? = some (.im .rw)) (h4 : ρ[4]? = some (.ow (dk C i bs))) (hl : 4 < ρ.length) (hs : 0 ≤ s.a) :
    ∃ s', dTold [(1, dx_lam1 C)] cl NM 3 dsu (dLam 1 cl) ρ s = some (.str "invalid", s') ∧ 0 ≤ s'.a := by
  obtain ⟨e, s', q1, q2, q3⟩ := pick_ok s hs badI (by decide) (by show 6 ≤ 1000000; decide)
  have h1' : (ρ.set 4 (.im (dk C i bs)))[1]? = some (.im .rw) := by rw [List.getElem?_set_ne (by decide)]; exact h1
  exact ⟨s', told_at (lam_of h0 1) rfl (lendX_of h4 (mx_of (k := 4) (List.getElem?_set_self hl) (one_of (call_of (cons_of (var_at h1') (one_of (by rfl))) q1)) (inv_bad e q2 s')) rfl) (end_invalid s'), q3⟩
theorem st_text (h0 : ρ[0]? = some (.im .tb)) (h1 : ρ[1]? = some (.im .rw)) (h4 : ρ[4]? = some (.ow (dk C i bs))) (hl : 4 < ρ.length) (hs : 0 ≤ s.a) :
    ∃ s', dTold [(2, dx_lam2 C)] cl NM 3 dsu (dLam 2 cl) ρ s = some (.str "text", s') ∧ 0 ≤ s'.a := by
  obtain ⟨e, s', q1, q2, q3⟩ := pick_ok s hs badT (by decide) (by show 4 ≤ 1000000; decide)
  have h1' : (ρ.set 4 (.im (dk C i bs)))[1]? = some (.im .rw) := by rw [List.getElem?_set_ne (by decide)]; exact h1
  exact ⟨s', told_at (lam_of h0 2) rfl (lendX_of h4 (mx_of (k := 4) (List.getElem?_set_self hl) (one_of (call_of (cons_of (var_at h1') (one_of (by rfl))) q1)) (text_bad e q2 s')) rfl) (end_text s'), q3⟩
theorem st_now (h0 : ρ[0]? = some (.im .tb)) (h1 : ρ[1]? = some (.im .rw)) (h4 : ρ[4]? = some (.ow (dk C i bs))) (hl : 4 < ρ.length) (hb : bs.length = 12) (hs : 0 ≤ s.a) :
    ∃ s', dTold [(3, dx_lam3 C)] cl NM 3 dsu (dLam 3 cl) ρ s = some (.str "now", s') ∧ 0 ≤ s'.a := by
  obtain ⟨e, s', q1, q2, q3⟩ := pick_ok s hs [vD true, vD false] (by simp) (by show 2 ≤ 1000000; decide)
  have h1' : (ρ.set 4 (.im (dk C i bs)))[1]? = some (.im .rw) := by rw [List.getElem?_set_ne (by decide)]; exact h1
  have hr : fx_Desk_run C [dk C i bs, e] s' = some (.inr ⟨"NotNow", none⟩, s') := by
    simp only [List.mem_cons, List.not_mem_nil, or_false] at q2
    rcases q2 with rfl | rfl <;> exact run_now _ hb
  exact ⟨s', told_at (lam_of h0 3) rfl (lendX_of h4 (mx_of (k := 4) (List.getElem?_set_self hl) (one_of (call_of (cons_of (var_at h1') (one_of (by rfl))) q1)) hr) rfl) (end_now s'), q3⟩
end
end Rk09
end
section
set_option Elab.async false
set_option linter.all false
set_option maxRecDepth 100000
set_option maxHeartbeats 4000000
open PySem L2 Dl PyProof.Rows
namespace Rk09
section
variable {C : Addr} {i : Nat} {bs : List Bool} {s s1 : Tau} {ρ : List Sl} {w r a : D}
theorem m0_of {f : List D → Tau → Option ((D × D × D) × Tau)} (h : ρ[4]? = some (.ow (dk C i bs))) (h2 : f [dk C i bs] s = some ((w, r, a), s1)) : dMut0 4 C f ρ s = some (.nx (ρ.set 4 (.ow (.dsk C w r a))), s1) := by
  unfold dMut0
  rw [h]
  show (if C = C then (f [dk C i bs] s).map fun z => (Rs.nx (ρ.set 4 (.ow (.dsk C z.1.1 z.1.2.1 z.1.2.2))), z.2) else none) = _
  rw [if_pos rfl, h2]; rfl
theorem m1_of {f : List D → Tau → Option ((D × D × D) × Tau)} {ax : Da} {xs : List D} (h : ρ[4]? = some (.ow (dk C i bs))) (hx : ax ρ s = some (xs, s)) (h2 : f (dk C i bs :: xs) s = some ((w, r, a), s1)) : dMut1 4 C f ax ρ s = some (.nx (ρ.set 4 (.ow (.dsk C w r a))), s1) := by
  unfold dMut1
  rw [h]
  show (if C = C then (ax ρ s).bind fun p => (f (dk C i bs :: p.1) p.2).map fun z => (Rs.nx (ρ.set 4 (.ow (.dsk C z.1.1 z.1.2.1 z.1.2.2))), z.2) else none) = _
  rw [if_pos rfl, hx]
  show (f (dk C i bs :: xs) s).map (fun z => (Rs.nx (ρ.set 4 (.ow (.dsk C z.1.1 z.1.2.1 z.1.2.2))), z.2)) = _
  rw [h2]; rfl
theorem mk_of {da : Dn} (h : da ρ s = some (.str (wy i), s)) (hi : i < 13) : dMk C (fi_Desk C) da ρ s = some (dk C i [], s) := by
  unfold dMk
  rw [h]
  show (if nod (D.str (wy i)) = true then (fi_Desk C (.str (wy i)) s).map fun r => (D.dsk C (.str (wy i)) r.1.1 r.1.2, r.2) else none) = _
  rw [if_pos (show nod (D.str (wy i)) = true from rfl), init_val hi]; rfl
end
def J (C : Addr) (i : Nat) (ρ : List Sl) : Prop := ∃ (bs : List Bool) (x y z : Sl), ρ = [.im .tb, .im .rw, .im (.str (wy i)), .im (tD bs), .ow (dk C i bs), x, y, z] ∧ bs.length ≤ 12
theorem ne_invalid : neD (.str "invalid") (.str "invalid") = some (.bl false) := by kernel_rfl
theorem ne_text : neD (.str "text") (.str "text") = some (.bl false) := by kernel_rfl
theorem ne_now : neD (.str "now") (.str "now") = some (.bl false) := by kernel_rfl
theorem ne_undo : neD (.str "undo") (.str "undo") = some (.bl false) := by kernel_rfl
theorem shown_lend {C : Addr} {i : Nat} (hi : i < 13) {bs : List Bool} (hl : bs.length ≤ 12) (x y z : Sl) (s : Tau) : dLend 4 (dCall (f__law_shown C) (dCons (dVar 4) (dCons (dVar 2) (dCons (dVar 3) dNil)))) [.im .tb, .im .rw, .im (.str (wy i)), .im (tD bs), .ow (dk C i bs), x, y, z] s = some (.bl true, s) :=
  lend_of (C := C) (i := i) (bs := bs) rfl (call_of (cons_of rfl (cons_of rfl (one_of rfl))) (shown_ok hi hl)) rfl
/-- one turn -/
noncomputable def turn (C : Addr) (cl : List (Str × Addr)) : Ds := (dSeq (dAsg (dCall f__law_taken (dCons (dVar 1) (dCons (dC (.int 8)) dNil))) (gdName 6))
  (dIfS (dB (dOp eqD (dVar 6) (dC (.int 0)))) (dIfS (dB (dOp neD (dTold [(1, dx_lam1 C)] cl NM 3 dsu (dLam 1 cl)) (dC (.str "invalid")))) (dRet (dC (.bl false))) dNext) (dIfS (dB (dOp eqD (dVar 6) (dC (.int 1)))) (dIfS (dB (dOp neD (dTold [(2, dx_lam2 C)] cl NM 3 dsu (dLam 2 cl)) (dC (.str "text")))) (dRet (dC (.bl false))) dNext) (dIfS (dAnd (dB (dOp eqD (dVar 6) (dC (.int 2)))) (dB (dOp neD (dVar 3) (dC (.str ""))))) (dSeq (dMut0 4 C (fm_Desk_undo C))
  (dAsg (dSl slD (dVar 3) dNone (dSome (dUn negD (dC (.int 1))))) (gdName 3))) (dIfS (dB (dOp ltA (dCallB lenD (dCons (dVar 3) dNil)) (dC (.int 12)))) (dSeq (dAsg (dCall f__law_pick (dCons (dVar 1) (dCons (dLst (dCons (dC (.str "+")) (dCons (dC (.str "-")) dNil))) dNil))) (gdName 7))
  (dSeq (dMut1 4 C (fm_Desk_run C) (dCons (dCall f__law_word (dCons (dVar 7) dNil)) dNil))
  (dAsg (dOp addD (dVar 3) (dVar 7)) (gdName 3)))) (dIfS (dB (dOp neD (dTold [(3, dx_lam3 C)] cl NM 3 dsu (dLam 3 cl)) (dC (.str "now")))) (dRet (dC (.bl false))) dNext))))))
theorem turn_ok {C : Addr} {i : Nat} (hi : i < 13) (cl : List (Str × Addr)) (d : D) (ρ : List Sl) (s : Tau) (hJ : J C i ρ) (hs : 0 ≤ s.a) :
    ∃ ρ1 ρ2 s', gdName 5 d ρ = some ρ1 ∧ turn C cl ρ1 s = some (.nx ρ2, s') ∧ J C i ρ2 ∧ 0 ≤ s'.a := by
  obtain ⟨bs, x, y, z, rfl, hl⟩ := hJ
  obtain ⟨n, s1, t1, t2, t3, t4⟩ := taken_ok s hs 8 (by decide) (by decide)
  refine ⟨[.im .tb, .im .rw, .im (.str (wy i)), .im (tD bs), .ow (dk C i bs), .im d, y, z], ?_⟩
  have go : ∀ (p : List Sl × Tau) (R : Ds), R [.im .tb, .im .rw, .im (.str (wy i)), .im (tD bs), .ow (dk C i bs), .im d, .im (.int n), z] s1 = some (.nx p.1, p.2) → dSeq (dAsg (dCall f__law_taken (dCons (dVar 1) (dCons (dC (.int 8)) dNil))) (gdName 6)) R [.im .tb, .im .rw, .im (.str (wy i)), .im (tD bs), .ow (dk C i bs), .im d, y, z] s = some (.nx p.1, p.2) := fun p R h =>
    seq_nx (ρ1 := [.im .tb, .im .rw, .im (.str (wy i)), .im (tD bs), .ow (dk C i bs), .im d, .im (.int n), z]) (asg_of (call_of (cons_of rfl (one_of rfl)) t1)) h
  have v6 : ∀ m : Int, dB (dOp eqD (dVar 6) (dC (.int m))) [.im .tb, .im .rw, .im (.str (wy i)), .im (tD bs), .ow (dk C i bs), .im d, .im (.int n), z] s1 = some (n == m, s1) := fun m => b_of (op_of rfl rfl rfl)
  by_cases n0 : n = 0
  · obtain ⟨s2, u1, u2⟩ := st_invalid (C := C) (i := i) (bs := bs) (cl := cl) (ρ := [.im .tb, .im .rw, .im (.str (wy i)), .im (tD bs), .ow (dk C i bs), .im d, .im (.int n), z]) rfl rfl rfl (by show 4 < 8; decide) t4
    exact ⟨_, s2, rfl, go (_, s2) _ (ifT (s1 := s1) ((v6 0).trans (by rw [n0]; rfl)) (ifF (s1 := s2) (b_of (op_of u1 rfl ne_invalid)) rfl)), ⟨bs, _, _, _, rfl, hl⟩, u2⟩
  have e0 : (n == 0) = false := beq_eq_false_iff_ne.mpr n0
  by_cases n1 : n = 1
  · obtain ⟨s2, u1, u2⟩ := st_text (C := C) (i := i) (bs := bs) (cl := cl) (ρ := [.im .tb, .im .rw, .im (.str (wy i)), .im (tD bs), .ow (dk C i bs), .im d, .im (.int n), z]) rfl rfl rfl (by show 4 < 8; decide) t4
    exact ⟨_, s2, rfl, go (_, s2) _ (ifF (s1 := s1) ((v6 0).trans (by rw [e0])) (ifT (s1 := s1) ((v6 1).trans (by rw [n1]; rfl)) (ifF (s1 := s2) (b_of (op_of u1 rfl ne_text)) rfl))), ⟨bs, _, _, _, rfl, hl⟩, u2⟩
  have e1 : (n == 1) = false := beq_eq_false_iff_ne.mpr n1
  have hb3 : dB (dOp neD (dVar 3) (dC (.str ""))) [.im .tb, .im .rw, .im (.str (wy i)), .im (tD bs), .ow (dk C i bs), .im d, .im (.int n), z] s1 = some (!bs.isEmpty, s1) := b_of (op_of rfl rfl (tx_ne bs))
  have hand := and_val (a := dB (dOp eqD (dVar 6) (dC (.int 2)))) (v6 2) (fun _ => hb3)
  by_cases hu : ((n == 2) && !bs.isEmpty) = true
  · rw [hu] at hand
    have h0 : bs ≠ [] := fun e => by rw [e] at hu; simp at hu
    exact ⟨[.im .tb, .im .rw, .im (.str (wy i)), .im (tD bs.dropLast), .ow (dk C i bs.dropLast), .im d, .im (.int n), z], s1, rfl, go (_, s1) _ (ifF (s1 := s1) ((v6 0).trans (by rw [e0])) (ifF (s1 := s1) ((v6 1).trans (by rw [e1])) (ifT (s1 := s1) hand
      (seq_nx (ρ1 := [.im .tb, .im .rw, .im (.str (wy i)), .im (tD bs), .ow (dk C i bs.dropLast), .im d, .im (.int n), z]) (m0_of (C := C) (i := i) (bs := bs) rfl (undo_val hi h0 hl)) (asg_of (sl_of rfl rfl rfl ((sl_tx (by omega) none (some (-1))).trans (by rw [cut_last]; rfl)))))))), ⟨bs.dropLast, _, _, _, rfl, by rw [List.length_dropLast]; omega⟩, t4⟩
  rw [Bool.not_eq_true] at hu
  rw [hu] at hand
  have hlt : dB (dOp ltA (dCallB lenD (dCons (dVar 3) dNil)) (dC (.int 12))) [.im .tb, .im .rw, .im (.str (wy i)), .im (tD bs), .ow (dk C i bs), .im d, .im (.int n), z] s1 = some (decide (bs.length < 12), s1) := b_of (op_of (callB_of (one_of rfl) (len_tx (by omega))) rfl (by
    show some (D.bl (decide ((bs.length : Int) < 12))) = _
    congr 2
    exact decide_eq_decide.mpr (by omega)))
  by_cases h12 : bs.length < 12
  · rw [decide_eq_true h12] at hlt
    obtain ⟨e, s2, p1, p2, p3⟩ := pick_ok s1 t4 [gD true, gD false] (by simp) (by show 2 ≤ 1000000; decide)
    obtain ⟨b, rfl⟩ : ∃ b, e = gD b := by
      simp only [List.mem_cons, List.not_mem_nil, or_false] at p2
      rcases p2 with rfl | rfl <;> exact ⟨_, rfl⟩
    exact ⟨[.im .tb, .im .rw, .im (.str (wy i)), .im (tD (bs ++ [b])), .ow (dk C i (bs ++ [b])), .im d, .im (.int n), .im (gD b)], s2, rfl, go (_, s2) _ (ifF (s1 := s1) ((v6 0).trans (by rw [e0])) (ifF (s1 := s1) ((v6 1).trans (by rw [e1])) (ifF (s1 := s1) hand (ifT (s1 := s1) hlt
      (seq_nx (ρ1 := [.im .tb, .im .rw, .im (.str (wy i)), .im (tD bs), .ow (dk C i bs), .im d, .im (.int n), .im (gD b)]) (asg_of (call_of (cons_of rfl (one_of (lst_of (cons_of rfl (one_of rfl)) (by show 2 ≤ 1000000; decide)))) p1))
        (seq_nx (ρ1 := [.im .tb, .im .rw, .im (.str (wy i)), .im (tD bs), .ow (dk C i (bs ++ [b])), .im d, .im (.int n), .im (gD b)]) (m1_of (C := C) (i := i) (bs := bs) rfl (one_of (call_of (one_of rfl) (word_ok b s2))) (run_adds hi b h12)) (asg_of (op_of rfl rfl (add_tx (a := bs) (b := [b]) (by show bs.length + 1 ≤ 1000000; omega))))))))))
      , ⟨bs ++ [b], _, _, _, rfl, by rw [List.length_append]; show bs.length + 1 ≤ 12; omega⟩, p3⟩
  · rw [decide_eq_false h12] at hlt
    obtain ⟨s2, u1, u2⟩ := st_now (C := C) (i := i) (bs := bs) (cl := cl) (ρ := [.im .tb, .im .rw, .im (.str (wy i)), .im (tD bs), .ow (dk C i bs), .im d, .im (.int n), z]) rfl rfl rfl (by show 4 < 8; decide) (by omega) t4
    exact ⟨_, s2, rfl, go (_, s2) _ (ifF (s1 := s1) ((v6 0).trans (by rw [e0])) (ifF (s1 := s1) ((v6 1).trans (by rw [e1])) (ifF (s1 := s1) hand (ifF (s1 := s1) hlt (ifF (s1 := s2) (b_of (op_of u1 rfl ne_now)) rfl))))), ⟨bs, _, _, _, rfl, hl⟩, u2⟩
theorem law_pure (C : Addr) (cl : List (Str × Addr)) (ns : List Int) (h : ns.length ≤ 63) : ∃ s', d_law C cl ((Sl.im .tb :: List.replicate 7 .un).set 1 (.im .rw)) ⟨0, 15609, 0, ns⟩ = some (.rt (.bl true) false, s') := by
  obtain ⟨wd, s0, a1, a2, a3⟩ := pick_ok ⟨0, 15609, 0, ns⟩ (by show (0 : Int) ≤ 0; decide) (wys.map D.str) (by decide) (by decide)
  obtain ⟨i, hi, rfl⟩ := ways_in wd a2
  obtain ⟨n, s1, t1, t2, t3, t4⟩ := taken_ok s0 a3 18 (by decide) (by decide)
  obtain ⟨ρ', s2, f1, ⟨bs, x, y, z, rfl, hl⟩, f3⟩ := for_nx (g := gdName 5) (b := turn C cl) (it := dRng1 (dCons (dCall f__law_taken (dCons (dVar 1) (dCons (dC (.int 18)) dNil))) dNil)) (ρ := [.im .tb, .im .rw, .im (.str (wy i)), .im (tD []), .ow (dk C i []), .un, .un, .un]) (s := s0) (fun t => 0 ≤ t.a) (J C i) (xs := (List.range n.toNat).map fun i : Nat => D.int i) (s1 := s1)
    (rng1_of (one_of (call_of (cons_of rfl (one_of rfl)) (by rw [show ((n.toNat : Nat) : Int) = n by omega]; exact t1))) (by omega)) ⟨[], _, _, _, rfl, by decide⟩ t4 (fun x _ ρ s hj hs => turn_ok hi cl x ρ s hj hs)
  refine ⟨s2, ?_⟩
  unfold d_law
  refine seq_nx (ρ1 := [.im .tb, .im .rw, .im (.str (wy i)), .im (tD []), .un, .un, .un, .un]) (par_of (cons_of (call_of (cons_of rfl (one_of (call_of rfl (lways_ok _)))) a1) (one_of rfl))) ?_
  refine seq_nx (ρ1 := [.im .tb, .im .rw, .im (.str (wy i)), .im (tD []), .ow (dk C i []), .un, .un, .un]) (own_of (mk_of rfl hi)) ?_
  refine seq_ifF (s1 := s0) (orF_of (s1 := s0) (b_of (op_of (st_undo (C := C) (i := i) rfl rfl (by show 4 < 8; decide)) rfl ne_undo)) (Dl.not_of (b := true) (b_of (shown_lend hi (by decide) _ _ _ s0)))) ?_
  exact seq_nx f1 (ret_of (shown_lend hi hl x y z s2))
end Rk09
end
section
set_option Elab.async false
set_option linter.all false
set_option maxRecDepth 100000
set_option maxHeartbeats 4000000
open PySem PySem.Spec PyProof.Rows L2 Dl
namespace Rk09
abbrev DC (K : PySem.W.Frag) : Addr := He.ga K "Desk"
def topS (i : Nat) : Stmt := PySem.Challenge.pw_rulevoices_k09_whole_desks.main.body.getD i (.Pass ⟨0, 0, 0, 0⟩)
abbrev s_need_way : Stmt := topS 19
abbrev s_joined : Stmt := topS 20
abbrev s_said : Stmt := topS 21
abbrev s_most_of : Stmt := topS 22
abbrev s_answer_of : Stmt := topS 23
abbrev s_is_voice : Stmt := topS 13
abbrev s_need_row : Stmt := topS 14
abbrev s_need_both : Stmt := topS 24
abbrev s_turned : Stmt := topS 15
abbrev s_turned_at : Stmt := topS 16
abbrev s_matters : Stmt := topS 25
abbrev s_signs_of : Stmt := topS 28
abbrev s_need_text : Stmt := topS 27
abbrev s__law_taken : Stmt := topS 32
abbrev s__law_pick : Stmt := topS 33
abbrev s__law_alike : Stmt := topS 34
abbrev s__law_answer : Stmt := topS 37
abbrev s__law_turned : Stmt := topS 36
abbrev s__law_flip : Stmt := topS 40
abbrev s__law_word : Stmt := topS 38
abbrev s__law_voices : Stmt := topS 39
abbrev s__law_shown : Stmt := topS 42
abbrev s__law_ways : Stmt := topS 35
abbrev s_law : Stmt := topS 43
abbrev s__law_told : Stmt := topS 41
abbrev s_Desk___init__ : Stmt := clsDef (topS 30) 0
abbrev s_Desk__lay : Stmt := clsDef (topS 30) 1
abbrev s_Desk_row : Stmt := clsDef (topS 30) 2
abbrev s_Desk_answer : Stmt := clsDef (topS 30) 3
abbrev s_Desk__told : Stmt := clsDef (topS 30) 4
abbrev s_Desk_run : Stmt := clsDef (topS 30) 5
abbrev s_Desk_undo : Stmt := clsDef (topS 30) 6
abbrev FnP (K : PySem.W.Frag) (x : Str) (st : Stmt) (f : Addr) (fd : FuncData) : Prop := FunD K x x (defArgs st) (defBody st) (defScope st) [] [] f fd
abbrev FnM (K : PySem.W.Frag) (x q : Str) (st : Stmt) (f : Addr) (fd : FuncData) : Prop := FunD K x q (defArgs st) (defBody st) (defScope st) [] [] f fd
structure Tx (K : PySem.W.Frag) (w : World) (mg : Str → Option Value) : Prop where
  f_bool : mg "bool" = none
  f_enumerate : mg "enumerate" = none
  f_int : mg "int" = none
  f_isinstance : mg "isinstance" = none
  f_len : mg "len" = none
  f_list : mg "list" = none
  f_range : mg "range" = none
  f_str : mg "str" = none
  f_tuple : mg "tuple" = none
  c_ALLOW : ∃ t, mg "ALLOW" = some (.str "allow" t)
  c_DENY : ∃ t, mg "DENY" = some (.str "deny" t)
  c_VOICES : mg "VOICES" = some (.ref (He.ga K "VOICES")) ∧ ∀ H, SqT K H (He.ga K "VOICES") (l_VOICES.map V.str)
  c_MOST_ROW : ∃ t, mg "MOST_ROW" = some (.int 12 t)
  c_WAYS : mg "WAYS" = some (.ref (He.ga K "WAYS")) ∧ ∀ H, SqT K H (He.ga K "WAYS") (l_WAYS.map V.str)
  g_NotNow : mg "NotNow" = some (.ref (He.ga K "NotNow"))
  g_NotText : mg "NotText" = some (.ref (He.ga K "NotText"))
  g_InvalidText : mg "InvalidText" = some (.ref (He.ga K "InvalidText"))
  g_NothingToUndo : mg "NothingToUndo" = some (.ref (He.ga K "NothingToUndo"))
  g_VoiceError : mg "VoiceError" = some (.ref (He.ga K "VoiceError"))
  cl_NotNow : clsB K (He.ga K "NotNow") = true
  cl_NotText : clsB K (He.ga K "NotText") = true
  cl_InvalidText : clsB K (He.ga K "InvalidText") = true
  cl_NothingToUndo : clsB K (He.ga K "NothingToUndo") = true
  x_exmV : ∀ q ∈ NM, PySem.W.exmOne K (.ref (He.ga K q.1)) (.ref (He.ga K "VoiceError")) = some true
  x_kit_InvalidText : ∀ q ∈ NM, PySem.W.kitOne K (.ref (He.ga K q.1)) (.ref (He.ga K "InvalidText")) = some (kb_InvalidText q.1)
  x_kit_NotNow : ∀ q ∈ NM, PySem.W.kitOne K (.ref (He.ga K q.1)) (.ref (He.ga K "NotNow")) = some (kb_NotNow q.1)
  x_kit_NotText : ∀ q ∈ NM, PySem.W.kitOne K (.ref (He.ga K q.1)) (.ref (He.ga K "NotText")) = some (kb_NotText q.1)
  x_kit_NothingToUndo : ∀ q ∈ NM, PySem.W.kitOne K (.ref (He.ga K q.1)) (.ref (He.ga K "NothingToUndo")) = some (kb_NothingToUndo q.1)
  cls : Cls K (DC K)
  na_way : NoAttr K (DC K) "_way"
  na_row : NoAttr K (DC K) "_row"
  na_answer : NoAttr K (DC K) "_answer"
def LAMS : List LamT := lamsSs 60 (defBody s_law)
def lamT_d : LamT := ⟨defArgs (.Pass ⟨0, 0, 0, 0⟩), .Name "" ⟨0, 0, 0, 0⟩, defScope (.Pass ⟨0, 0, 0, 0⟩)⟩
abbrev lamT_0 : LamT := LAMS.getD 0 lamT_d
abbrev lamT_1 : LamT := LAMS.getD 1 lamT_d
abbrev lamT_2 : LamT := LAMS.getD 2 lamT_d
abbrev lamT_3 : LamT := LAMS.getD 3 lamT_d
theorem lam_at {P : Program} (h : lamsSs 60 (lawBody P.main.body) = LAMS) (n : Nat) {t : LamT} (e : LAMS[n]? = some t) : lamT P n = some t := by unfold lamT; rw [h]; exact e
theorem sc__law_told : FnScope ["_law_work", "e", "_law_known"] ["_law_work"] (defScope s__law_told) := ⟨rfl, rfl, rfl, by decide +kernel, rfl, by decide +kernel, by decide +kernel⟩
theorem sc_Desk_init : FnScope ["self", "way"] ["self", "way"] (defScope s_Desk___init__) := ⟨rfl, rfl, rfl, by decide +kernel, rfl, by decide +kernel, by decide +kernel⟩
theorem sc_Desk__lay : FnScope ["self", "row"] ["self", "row"] (defScope s_Desk__lay) := ⟨rfl, rfl, rfl, by decide +kernel, rfl, by decide +kernel, by decide +kernel⟩
theorem sc_Desk_row : FnScope ["self"] ["self"] (defScope s_Desk_row) := ⟨rfl, rfl, rfl, by decide +kernel, rfl, by decide +kernel, by decide +kernel⟩
theorem sc_Desk_answer : FnScope ["self"] ["self"] (defScope s_Desk_answer) := ⟨rfl, rfl, rfl, by decide +kernel, rfl, by decide +kernel, by decide +kernel⟩
theorem sc_Desk__told : FnScope ["self", "line", "some", "place"] ["self", "line"] (defScope s_Desk__told) := ⟨rfl, rfl, rfl, by decide +kernel, rfl, by decide +kernel, by decide +kernel⟩
theorem sc_Desk_run : FnScope ["self", "line", "found"] ["self", "line"] (defScope s_Desk_run) := ⟨rfl, rfl, rfl, by decide +kernel, rfl, by decide +kernel, by decide +kernel⟩
theorem sc_Desk_undo : FnScope ["self"] ["self"] (defScope s_Desk_undo) := ⟨rfl, rfl, rfl, by decide +kernel, rfl, by decide +kernel, by decide +kernel⟩
section
variable {P : Program} {w : World} {K : PySem.W.Frag} {mg : Str → Option Value} {base : Heap}
theorem sc_need_way : FnScope ["way"] ["way"] (defScope s_need_way) := ⟨rfl, rfl, rfl, by decide +kernel, rfl, by decide +kernel, by decide +kernel⟩
theorem sc_joined : FnScope ["row", "place", "voice"] ["row"] (defScope s_joined) := ⟨rfl, rfl, rfl, by decide +kernel, rfl, by decide +kernel, by decide +kernel⟩
theorem sc_said : FnScope ["good"] ["good"] (defScope s_said) := ⟨rfl, rfl, rfl, by decide +kernel, rfl, by decide +kernel, by decide +kernel⟩
theorem sc_most_of : FnScope ["way", "row", "allows", "denies"] ["way", "row"] (defScope s_most_of) := ⟨rfl, rfl, rfl, by decide +kernel, rfl, by decide +kernel, by decide +kernel⟩
theorem sc_answer_of : FnScope ["way", "row"] ["way", "row"] (defScope s_answer_of) := ⟨rfl, rfl, rfl, by decide +kernel, rfl, by decide +kernel, by decide +kernel⟩
theorem sc_is_voice : FnScope ["value"] ["value"] (defScope s_is_voice) := ⟨rfl, rfl, rfl, by decide +kernel, rfl, by decide +kernel, by decide +kernel⟩
theorem sc_need_row : FnScope ["value", "index"] ["value"] (defScope s_need_row) := ⟨rfl, rfl, rfl, by decide +kernel, rfl, by decide +kernel, by decide +kernel⟩
theorem sc_need_both : FnScope ["way", "row"] ["way", "row"] (defScope s_need_both) := ⟨rfl, rfl, rfl, by decide +kernel, rfl, by decide +kernel, by decide +kernel⟩
theorem sc_turned : FnScope ["voice"] ["voice"] (defScope s_turned) := ⟨rfl, rfl, rfl, by decide +kernel, rfl, by decide +kernel, by decide +kernel⟩
theorem sc_turned_at : FnScope ["row", "place"] ["row", "place"] (defScope s_turned_at) := ⟨rfl, rfl, rfl, by decide +kernel, rfl, by decide +kernel, by decide +kernel⟩
theorem sc_matters : FnScope ["way", "row", "here", "place"] ["way", "row"] (defScope s_matters) := ⟨rfl, rfl, rfl, by decide +kernel, rfl, by decide +kernel, by decide +kernel⟩
theorem sc_signs_of : FnScope ["voices", "voice"] ["voices"] (defScope s_signs_of) := ⟨rfl, rfl, rfl, by decide +kernel, rfl, by decide +kernel, by decide +kernel⟩
theorem sc_need_text : FnScope ["text"] ["text"] (defScope s_need_text) := ⟨rfl, rfl, rfl, by decide +kernel, rfl, by decide +kernel, by decide +kernel⟩
theorem sc__law_taken : FnScope ["_law_row", "_law_many", "_law_found", "_law_cell"] ["_law_row", "_law_many"] (defScope s__law_taken) := ⟨rfl, rfl, rfl, by decide +kernel, rfl, by decide +kernel, by decide +kernel⟩
theorem sc__law_pick : FnScope ["_law_row", "_law_kinds"] ["_law_row", "_law_kinds"] (defScope s__law_pick) := ⟨rfl, rfl, rfl, by decide +kernel, rfl, by decide +kernel, by decide +kernel⟩
theorem sc__law_alike : FnScope ["_law_found", "_law_due", "_law_k"] ["_law_found", "_law_due"] (defScope s__law_alike) := ⟨rfl, rfl, rfl, by decide +kernel, rfl, by decide +kernel, by decide +kernel⟩
theorem sc__law_answer : FnScope ["_law_way", "_law_text", "_law_more", "_law_ties", "_law_good", "_law_changes", "_law_at"] ["_law_way", "_law_text"] (defScope s__law_answer) := ⟨rfl, rfl, rfl, by decide +kernel, rfl, by decide +kernel, by decide +kernel⟩
theorem sc__law_turned : FnScope ["_law_text", "_law_sign"] ["_law_text"] (defScope s__law_turned) := ⟨rfl, rfl, rfl, by decide +kernel, rfl, by decide +kernel, by decide +kernel⟩
theorem sc__law_flip : FnScope ["_law_text", "_law_at"] ["_law_text", "_law_at"] (defScope s__law_flip) := ⟨rfl, rfl, rfl, by decide +kernel, rfl, by decide +kernel, by decide +kernel⟩
theorem sc__law_word : FnScope ["_law_sign"] ["_law_sign"] (defScope s__law_word) := ⟨rfl, rfl, rfl, by decide +kernel, rfl, by decide +kernel, by decide +kernel⟩
theorem sc__law_voices : FnScope ["_law_text", "_law_sign"] ["_law_text"] (defScope s__law_voices) := ⟨rfl, rfl, rfl, by decide +kernel, rfl, by decide +kernel, by decide +kernel⟩
theorem sc__law_shown : FnScope ["_law_desk", "_law_way", "_law_text", "_law_here", "_law_some", "_law_at"] ["_law_desk", "_law_way", "_law_text"] (defScope s__law_shown) := ⟨rfl, rfl, rfl, by decide +kernel, rfl, by decide +kernel, by decide +kernel⟩
theorem sc__law_ways : FnScope [] [] (defScope s__law_ways) := ⟨rfl, rfl, rfl, by decide +kernel, rfl, by decide +kernel, by decide +kernel⟩
theorem sc_law : FnScope ["_law_script", "_law_row", "_law_way", "_law_text", "_law_desk", "_law_turn", "_law_deed", "_law_sign"] ["_law_script"] (defScope s_law) := ⟨rfl, rfl, rfl, by decide +kernel, rfl, by decide +kernel, by decide +kernel⟩
theorem ok_need_way (T : Tx K w mg) (h : ∃ fd, FnP K "need_way" s_need_way (He.ga K "need_way") fd) (g : mg "need_way" = some (.ref (He.ga K "need_way")))  : Cd P w K mg base 2 "need_way" 1 f_need_way := by
  obtain ⟨h_WAYS, s_WAYS⟩ := T.c_WAYS
  obtain ⟨fd, F⟩ := h
  have b : Binds K fd ["way"] [] := F.bindsN fun _ _ _ _ _ _ us hl => match us, hl with | [_], _ => rfl
  exact ⟨_, fd, ["way"], rfl, fn_ok (N := ["way"]) (k := 1) F sc_need_way (dn := d_need_way) (fun cdv A outer s H E hr => ⟨_, (ess_one (es_if (EW.t (ew_or (et_not (et_val (ee_isi (u := "str") (by decide) (by rfl) T.f_isinstance (by rfl) T.f_str (by decide +kernel) (ee_var 0)))) (ew_or1 (et_cmp (cm_nin hr) (ee_var 0) (ee_glob (v := .ref (He.ga K "WAYS")) (by rfl) h_WAYS rfl (fun _ I => .ktp (s_WAYS I) (RepL.strs _))))))) (ess_one es_never) ess_nil))⟩), g, F.kp, b⟩
theorem ok_joined (T : Tx K w mg) (h : ∃ fd, FnP K "joined" s_joined (He.ga K "joined") fd) (g : mg "joined" = some (.ref (He.ga K "joined")))  : Cd P w K mg base 2 "joined" 1 f_joined := by
  obtain ⟨fd, F⟩ := h
  have b : Binds K fd ["row"] [] := F.bindsN fun _ _ _ _ _ _ us hl => match us, hl with | [_], _ => rfl
  exact ⟨_, fd, ["row"], rfl, fn_ok (N := ["row", "place", "voice"]) (k := 1) F sc_joined (dn := d_joined) (fun cdv A outer s H E hr => ⟨_, (ess_one (es_ret (ee_callT call_tupF sl_tuple (by rfl) T.f_tuple (by decide +kernel) (ea_cons (ee_lc (own := [("place", 1), ("voice", 2)]) rfl sc_joined.nd (ei_enumT (by rfl) T.f_enumerate (ea_cons (ee_var 0) ea_nil)) (by rfl) (egb_mk fun _ _ _ _ _ => (eg_tup rfl (egs_cons (eg_name (i := 1) sc_joined.nd rfl (by first | exact .inl rfl | exact .inr rfl)) (egs_cons (eg_name (i := 2) sc_joined.nd rfl (by first | exact .inl rfl | exact .inr rfl)) egs_nil)))) (etb_one fun _ _ _ _ _ => (EW.t (ew_or (et_cmp (cm_eq hr) (ee_var 1) ee_int) (ew_or1 (et_cmp (cm_ne hr) (ee_var 2) (ee_ix (ee_var 0) (ee_sub (ee_var 1) ee_int))))))) (eeb_mk fun _ _ _ _ _ => (ee_var 2))) ea_nil))))⟩), g, F.kp, b⟩
theorem ok_said (T : Tx K w mg) (h : ∃ fd, FnP K "said" s_said (He.ga K "said") fd) (g : mg "said" = some (.ref (He.ga K "said")))  : Cd P w K mg base 2 "said" 1 f_said := by
  obtain ⟨t_ALLOW, h_ALLOW⟩ := T.c_ALLOW
  obtain ⟨t_DENY, h_DENY⟩ := T.c_DENY
  obtain ⟨fd, F⟩ := h
  have b : Binds K fd ["good"] [] := F.bindsN fun _ _ _ _ _ _ us hl => match us, hl with | [_], _ => rfl
  exact ⟨_, fd, ["good"], rfl, fn_ok (N := ["good"]) (k := 1) F sc_said (dn := d_said) (fun cdv A outer s H E hr => ⟨_, (ess_one (es_ret (ee_if (et_val (ee_var 0)) (ee_glob (v := .str _) (by rfl) h_ALLOW ⟨t_ALLOW, rfl⟩ (fun _ _ => .str _)) (ee_glob (v := .str _) (by rfl) h_DENY ⟨t_DENY, rfl⟩ (fun _ _ => .str _)))))⟩), g, F.kp, b⟩
theorem ok_most_of (T : Tx K w mg) (h : ∃ fd, FnP K "most_of" s_most_of (He.ga K "most_of") fd) (g : mg "most_of" = some (.ref (He.ga K "most_of"))) (C_said : Cd P w K mg base 2 "said" 1 f_said) : Cd P w K mg base 3 "most_of" 2 f_most_of := by
  obtain ⟨t_ALLOW, h_ALLOW⟩ := T.c_ALLOW
  obtain ⟨t_DENY, h_DENY⟩ := T.c_DENY
  obtain ⟨fd, F⟩ := h
  have b : Binds K fd ["way", "row"] [] := F.bindsN fun _ _ _ _ _ _ us hl => match us, hl with | [_, _], _ => rfl
  exact ⟨_, fd, ["way", "row"], rfl, fn_ok (N := ["way", "row", "allows", "denies"]) (k := 2) F sc_most_of (dn := d_most_of) (fun cdv A outer s H E hr => ⟨_, (ess_cons (es_par (i := 2) (j := 3) rfl sc_most_of.nd rfl rfl (by decide) rfl rfl (ea_cons (ee_tcount (ee_var 1) (ee_glob (v := .str _) (by rfl) h_ALLOW ⟨t_ALLOW, rfl⟩ (fun _ _ => .str _))) (ea_cons (ee_tcount (ee_var 1) (ee_glob (v := .str _) (by rfl) h_DENY ⟨t_DENY, rfl⟩ (fun _ _ => .str _))) ea_nil)))
    (ess_cons (es_if (et_cmp (cm_ne hr) (ee_var 2) (ee_var 3)) (ess_one (es_ret (ee_call C_said hr (by decide) (by rfl) (ea_cons (ee_cmp cm_gt (ee_var 2) (ee_var 3)) ea_nil) (len_cons len_nil)))) ess_nil)
    (ess_cons (es_if (et_cmp (cm_in hr) (ee_var 0) (ee_tup (ea_cons ee_str (ea_cons ee_str ea_nil)))) (ess_one (es_ret (ee_if (et_cmp (cm_eq hr) (ee_var 0) ee_str) (ee_ix (ee_var 1) ee_int) (ee_ix (ee_var 1) (ee_neg ee_int))))) ess_nil)
    (ess_one (es_ret (ee_if (et_cmp (cm_eq hr) (ee_var 0) ee_str) (ee_glob (v := .str _) (by rfl) h_ALLOW ⟨t_ALLOW, rfl⟩ (fun _ _ => .str _)) (ee_glob (v := .str _) (by rfl) h_DENY ⟨t_DENY, rfl⟩ (fun _ _ => .str _))))))))⟩), g, F.kp, b⟩
theorem ok_answer_of (T : Tx K w mg) (h : ∃ fd, FnP K "answer_of" s_answer_of (He.ga K "answer_of") fd) (g : mg "answer_of" = some (.ref (He.ga K "answer_of"))) (C_joined : Cd P w K mg base 2 "joined" 1 f_joined) (C_most_of : Cd P w K mg base 3 "most_of" 2 f_most_of) (C_said : Cd P w K mg base 2 "said" 1 f_said) : Cd P w K mg base 4 "answer_of" 2 f_answer_of := by
  obtain ⟨t_ALLOW, h_ALLOW⟩ := T.c_ALLOW
  obtain ⟨t_DENY, h_DENY⟩ := T.c_DENY
  obtain ⟨fd, F⟩ := h
  have b : Binds K fd ["way", "row"] [] := F.bindsN fun _ _ _ _ _ _ us hl => match us, hl with | [_, _], _ => rfl
  exact ⟨_, fd, ["way", "row"], rfl, fn_ok (N := ["way", "row"]) (k := 3) F sc_answer_of (dn := d_answer_of) (fun cdv A outer s H E hr => ⟨_, (ess_cons (es_if (et_cmp (cm_eq hr) (ee_sl (ee_var 0) eo_none (eo_some ee_int)) ee_str) (ess_one (es_ret (ee_call C_most_of hr (by decide) (by rfl) (ea_cons (ee_var 0) (ea_cons (ee_var 1) ea_nil)) (len_cons (len_cons len_nil))))) ess_nil)
    (ess_cons (es_if (et_cmp (cm_in hr) (ee_var 0) (ee_tup (ea_cons ee_str (ea_cons ee_str ea_nil)))) (ess_one (es_ret (ee_if (et_cmp (cm_eq hr) (ee_var 0) ee_str) (ee_ix (ee_var 1) ee_int) (ee_ix (ee_var 1) (ee_neg ee_int))))) ess_nil)
    (ess_cons (es_if (et_cmp (cm_in hr) (ee_var 0) (ee_tup (ea_cons ee_str (ea_cons ee_str ea_nil)))) (ess_one (es_ret (ee_call C_said hr (by decide) (by rfl) (ea_cons (ee_if (et_cmp (cm_eq hr) (ee_var 0) ee_str) (ee_cmp (cm_in hr) (ee_glob (v := .str _) (by rfl) h_ALLOW ⟨t_ALLOW, rfl⟩ (fun _ _ => .str _)) (ee_var 1)) (ee_cmp (cm_nin hr) (ee_glob (v := .str _) (by rfl) h_DENY ⟨t_DENY, rfl⟩ (fun _ _ => .str _)) (ee_var 1))) ea_nil) (len_cons len_nil)))) ess_nil)
    (ess_cons (es_if (et_cmp (cm_eq hr) (ee_var 0) ee_str) (ess_one (es_ret (ee_call C_said hr (by decide) (by rfl) (ea_cons (ee_cmp (cm_eq hr) (ee_mod (ee_tcount (ee_var 1) (ee_glob (v := .str _) (by rfl) h_DENY ⟨t_DENY, rfl⟩ (fun _ _ => .str _))) ee_int) ee_int) ea_nil) (len_cons len_nil)))) ess_nil)
    (ess_cons (es_if (et_cmp (cm_eq hr) (ee_var 0) ee_str) (ess_one (es_ret (ee_call C_said hr (by decide) (by rfl) (ea_cons (ee_and (ee_cmp (cm_eq hr) (ee_ix (ee_var 1) ee_int) (ee_glob (v := .str _) (by rfl) h_ALLOW ⟨t_ALLOW, rfl⟩ (fun _ _ => .str _))) (ee_one (ee_cmp (cm_eq hr) (ee_ix (ee_var 1) (ee_neg ee_int)) (ee_glob (v := .str _) (by rfl) h_ALLOW ⟨t_ALLOW, rfl⟩ (fun _ _ => .str _))))) ea_nil) (len_cons len_nil)))) ess_nil)
    (ess_cons (es_if (et_cmp (cm_eq hr) (ee_var 0) ee_str) (ess_one (es_ret (ee_call C_said hr (by decide) (by rfl) (ea_cons (ee_cmp (cm_in hr) (ee_call C_joined hr (by decide) (by rfl) (ea_cons (ee_var 1) ea_nil) (len_cons len_nil)) (ee_tup (ea_cons (ee_tup (ea_cons (ee_glob (v := .str _) (by rfl) h_ALLOW ⟨t_ALLOW, rfl⟩ (fun _ _ => .str _)) ea_nil)) (ea_cons (ee_tup (ea_cons (ee_glob (v := .str _) (by rfl) h_DENY ⟨t_DENY, rfl⟩ (fun _ _ => .str _)) (ea_cons (ee_glob (v := .str _) (by rfl) h_ALLOW ⟨t_ALLOW, rfl⟩ (fun _ _ => .str _)) (ea_cons (ee_glob (v := .str _) (by rfl) h_DENY ⟨t_DENY, rfl⟩ (fun _ _ => .str _)) ea_nil)))) ea_nil)))) ea_nil) (len_cons len_nil)))) ess_nil)
    (ess_one (es_ret (ee_call C_said hr (by decide) (by rfl) (ea_cons (ee_cmp (cm_eq hr) (ee_var 0) ee_str) ea_nil) (len_cons len_nil))))))))))⟩), g, F.kp, b⟩
theorem ok_is_voice (T : Tx K w mg) (h : ∃ fd, FnP K "is_voice" s_is_voice (He.ga K "is_voice") fd) (g : mg "is_voice" = some (.ref (He.ga K "is_voice")))  : Cd P w K mg base 2 "is_voice" 1 f_is_voice := by
  obtain ⟨h_VOICES, s_VOICES⟩ := T.c_VOICES
  obtain ⟨fd, F⟩ := h
  have b : Binds K fd ["value"] [] := F.bindsN fun _ _ _ _ _ _ us hl => match us, hl with | [_], _ => rfl
  exact ⟨_, fd, ["value"], rfl, fn_ok (N := ["value"]) (k := 1) F sc_is_voice (dn := d_is_voice) (fun cdv A outer s H E hr => ⟨_, (ess_one (es_ret (ee_and (ee_isi (u := "str") (by decide) (by rfl) T.f_isinstance (by rfl) T.f_str (by decide +kernel) (ee_var 0)) (ee_one (ee_cmp (cm_in hr) (ee_var 0) (ee_glob (v := .ref (He.ga K "VOICES")) (by rfl) h_VOICES rfl (fun _ I => .ktp (s_VOICES I) (RepL.strs _))))))))⟩), g, F.kp, b⟩
theorem ok_need_row (T : Tx K w mg) (h : ∃ fd, FnP K "need_row" s_need_row (He.ga K "need_row") fd) (g : mg "need_row" = some (.ref (He.ga K "need_row"))) (C_is_voice : Cd P w K mg base 2 "is_voice" 1 f_is_voice) : Cd P w K mg base 3 "need_row" 1 f_need_row := by
  obtain ⟨t_MOST_ROW, h_MOST_ROW⟩ := T.c_MOST_ROW
  obtain ⟨fd, F⟩ := h
  have b : Binds K fd ["value"] [] := F.bindsN fun _ _ _ _ _ _ us hl => match us, hl with | [_], _ => rfl
  exact ⟨_, fd, ["value"], rfl, fn_ok (N := ["value", "index"]) (k := 2) F sc_need_row (dn := d_need_row) (fun cdv A outer s H E hr => ⟨_, (ess_cons (es_if (EW.t (ew_or (et_not (et_val (ee_isi (u := "tuple") (by decide) (by rfl) T.f_isinstance (by rfl) T.f_tuple (by decide +kernel) (ee_var 0)))) (ew_or1 (et_not (et_chain cm_le cm_le ee_int (ee_callB call_len sl_len (by rfl) T.f_len (by decide +kernel) (ea_cons (ee_var 0) ea_nil)) (ee_glob (v := .int _) (by rfl) h_MOST_ROW ⟨t_MOST_ROW, rfl⟩ (fun _ _ => .int _))))))) (ess_one es_never) ess_nil)
    (ess_one (es_for PassesOwn.never rfl (ei_rng1 (by rfl) T.f_range (ea_cons (ee_callB call_len sl_len (by rfl) T.f_len (by decide +kernel) (ea_cons (ee_var 0) ea_nil)) ea_nil)) (eg_name (i := 1) sc_need_row.nd rfl (by first | exact .inl rfl | exact .inr rfl)) (ess_one (es_if (et_not (et_val (ee_call C_is_voice hr (by decide) (by rfl) (ea_cons (ee_ix (ee_var 0) (ee_var 1)) ea_nil) (len_cons len_nil)))) (ess_one es_never) ess_nil)))))⟩), g, F.kp, b⟩
theorem ok_need_both (T : Tx K w mg) (h : ∃ fd, FnP K "need_both" s_need_both (He.ga K "need_both") fd) (g : mg "need_both" = some (.ref (He.ga K "need_both"))) (C_need_row : Cd P w K mg base 3 "need_row" 1 f_need_row) (C_need_way : Cd P w K mg base 2 "need_way" 1 f_need_way) : Cd P w K mg base 4 "need_both" 2 f_need_both := by
  obtain ⟨fd, F⟩ := h
  have b : Binds K fd ["way", "row"] [] := F.bindsN fun _ _ _ _ _ _ us hl => match us, hl with | [_, _], _ => rfl
  exact ⟨_, fd, ["way", "row"], rfl, fn_ok (N := ["way", "row"]) (k := 3) F sc_need_both (dn := d_need_both) (fun cdv A outer s H E hr => ⟨_, (ess_cons (es_expr (ee_call C_need_way hr (by decide) (by rfl) (ea_cons (ee_var 0) ea_nil) (len_cons len_nil)))
    (ess_one (es_expr (ee_call C_need_row hr (by decide) (by rfl) (ea_cons (ee_var 1) ea_nil) (len_cons len_nil)))))⟩), g, F.kp, b⟩
theorem ok_turned (T : Tx K w mg) (h : ∃ fd, FnP K "turned" s_turned (He.ga K "turned") fd) (g : mg "turned" = some (.ref (He.ga K "turned")))  : Cd P w K mg base 2 "turned" 1 f_turned := by
  obtain ⟨t_ALLOW, h_ALLOW⟩ := T.c_ALLOW
  obtain ⟨t_DENY, h_DENY⟩ := T.c_DENY
  obtain ⟨fd, F⟩ := h
  have b : Binds K fd ["voice"] [] := F.bindsN fun _ _ _ _ _ _ us hl => match us, hl with | [_], _ => rfl
  exact ⟨_, fd, ["voice"], rfl, fn_ok (N := ["voice"]) (k := 1) F sc_turned (dn := d_turned) (fun cdv A outer s H E hr => ⟨_, (ess_one (es_ret (ee_if (et_cmp (cm_eq hr) (ee_var 0) (ee_glob (v := .str _) (by rfl) h_ALLOW ⟨t_ALLOW, rfl⟩ (fun _ _ => .str _))) (ee_glob (v := .str _) (by rfl) h_DENY ⟨t_DENY, rfl⟩ (fun _ _ => .str _)) (ee_glob (v := .str _) (by rfl) h_ALLOW ⟨t_ALLOW, rfl⟩ (fun _ _ => .str _)))))⟩), g, F.kp, b⟩
theorem ok_turned_at (T : Tx K w mg) (h : ∃ fd, FnP K "turned_at" s_turned_at (He.ga K "turned_at") fd) (g : mg "turned_at" = some (.ref (He.ga K "turned_at"))) (C_turned : Cd P w K mg base 2 "turned" 1 f_turned) : Cd P w K mg base 3 "turned_at" 2 f_turned_at := by
  obtain ⟨fd, F⟩ := h
  have b : Binds K fd ["row", "place"] [] := F.bindsN fun _ _ _ _ _ _ us hl => match us, hl with | [_, _], _ => rfl
  exact ⟨_, fd, ["row", "place"], rfl, fn_ok (N := ["row", "place"]) (k := 2) F sc_turned_at (dn := d_turned_at) (fun cdv A outer s H E hr => ⟨_, (ess_one (es_ret (ee_tup (ea_star (ee_sl (ee_var 0) eo_none (eo_some (ee_var 1))) (ea_cons (ee_call C_turned hr (by decide) (by rfl) (ea_cons (ee_ix (ee_var 0) (ee_var 1)) ea_nil) (len_cons len_nil)) (ea_star (ee_sl (ee_var 0) (eo_some (ee_add (ee_var 1) ee_int)) eo_none) ea_nil))))))⟩), g, F.kp, b⟩
theorem ok_matters (T : Tx K w mg) (h : ∃ fd, FnP K "matters" s_matters (He.ga K "matters") fd) (g : mg "matters" = some (.ref (He.ga K "matters"))) (C_answer_of : Cd P w K mg base 4 "answer_of" 2 f_answer_of) (C_need_both : Cd P w K mg base 4 "need_both" 2 f_need_both) (C_turned_at : Cd P w K mg base 3 "turned_at" 2 f_turned_at) : Cd P w K mg base 5 "matters" 2 f_matters := by
  obtain ⟨fd, F⟩ := h
  have b : Binds K fd ["way", "row"] [] := F.bindsN fun _ _ _ _ _ _ us hl => match us, hl with | [_, _], _ => rfl
  exact ⟨_, fd, ["way", "row"], rfl, fn_ok (N := ["way", "row", "here", "place"]) (k := 4) F sc_matters (dn := d_matters) (fun cdv A outer s H E hr => ⟨_, (ess_cons (es_expr (ee_call C_need_both hr (by decide) (by rfl) (ea_cons (ee_var 0) (ea_cons (ee_var 1) ea_nil)) (len_cons (len_cons len_nil))))
    (ess_cons (es_set (i := 2) sc_matters.nd rfl (.inr rfl) (ee_call C_answer_of hr (by decide) (by rfl) (ea_cons (ee_var 0) (ea_cons (ee_var 1) ea_nil)) (len_cons (len_cons len_nil))))
    (ess_one (es_ret (ee_callT call_tupF sl_tuple (by rfl) T.f_tuple (by decide +kernel) (ea_cons (ee_lc (own := [("place", 3)]) rfl sc_matters.nd (ei_rng1 (by rfl) T.f_range (ea_cons (ee_callB call_len sl_len (by rfl) T.f_len (by decide +kernel) (ea_cons (ee_var 1) ea_nil)) ea_nil)) (by rfl) (egb_mk fun _ _ _ _ _ => (eg_name (i := 3) sc_matters.nd rfl (by first | exact .inl rfl | exact .inr rfl))) (etb_one fun _ _ _ _ _ => (et_cmp (cm_ne hr) (ee_call C_answer_of hr (by decide) (by rfl) (ea_cons (ee_var 0) (ea_cons (ee_call C_turned_at hr (by decide) (by rfl) (ea_cons (ee_var 1) (ea_cons (ee_var 3) ea_nil)) (len_cons (len_cons len_nil))) ea_nil)) (len_cons (len_cons len_nil))) (ee_var 2))) (eeb_mk fun _ _ _ _ _ => (ee_var 3))) ea_nil))))))⟩), g, F.kp, b⟩
theorem ok_signs_of (T : Tx K w mg) (h : ∃ fd, FnP K "signs_of" s_signs_of (He.ga K "signs_of") fd) (g : mg "signs_of" = some (.ref (He.ga K "signs_of")))  : Cd P w K mg base 2 "signs_of" 1 f_signs_of := by
  obtain ⟨t_ALLOW, h_ALLOW⟩ := T.c_ALLOW
  obtain ⟨fd, F⟩ := h
  have b : Binds K fd ["voices"] [] := F.bindsN fun _ _ _ _ _ _ us hl => match us, hl with | [_], _ => rfl
  exact ⟨_, fd, ["voices"], rfl, fn_ok (N := ["voices", "voice"]) (k := 1) F sc_signs_of (dn := d_signs_of) (fun cdv A outer s H E hr => ⟨_, (ess_one (es_ret (ee_bmS PySem.F.slot_str_join PySem.F.type_str_join mt_join sm_join ee_str (ea_cons (ee_lc (own := [("voice", 1)]) rfl sc_signs_of.nd (ei_tup (ee_var 0)) (by rfl) (egb_mk fun _ _ _ _ _ => (eg_name (i := 1) sc_signs_of.nd rfl (by first | exact .inl rfl | exact .inr rfl))) etb_nil (eeb_mk fun _ _ _ _ _ => (ee_if (et_cmp (cm_eq hr) (ee_var 1) (ee_glob (v := .str _) (by rfl) h_ALLOW ⟨t_ALLOW, rfl⟩ (fun _ _ => .str _))) ee_str ee_str))) ea_nil))))⟩), g, F.kp, b⟩
theorem ok_need_text (T : Tx K w mg) (h : ∃ fd, FnP K "need_text" s_need_text (He.ga K "need_text") fd) (g : mg "need_text" = some (.ref (He.ga K "need_text")))  : Cr (L2N.CX P w) P w K mg base 2 "need_text" 1 fx_need_text := by
  have cls_NotText := clsB_ok T.cl_NotText
  obtain ⟨fd, F⟩ := h
  have b : Binds K fd ["text"] [] := F.bindsN fun _ _ _ _ _ _ us hl => match us, hl with | [_], _ => rfl
  refine ⟨_, fd, ["text"], rfl, fnR_ok (CX := L2N.CX P w) (N := ["text"]) (k := 1) F sc_need_text (dx := dx_need_text) (fun cdv A outer s H E hr => ?_), g, F.kp, b⟩
  have tk : L2N.Takes (cxOf (L2N.CX P w) P w K mg base ["text"] "need_text" (defScope s_need_text) (He.ga K "need_text") cdv A outer s H E) (fun cls d _ H => E cls d H) := L2N.takes_of rfl rfl rfl rfl
  exact ⟨_, (exs_cons (ex_if (et_not (et_val (ee_isi (u := "str") (by decide) (by rfl) T.f_isinstance (by rfl) T.f_str (by decide +kernel) (ee_var 0)))) (exs_cons (ex_raise (cx := "NotText") rfl tk PySem.F.excBase_ValueError cls_NotText.exc T.g_NotText cls_NotText.kp (raises_own cls_NotText.sub cls_NotText.ty) (by rfl))
    exs_nil) exs_nil)
    exs_nil)⟩
theorem ok__law_taken (T : Tx K w mg) (h : ∃ fd, FnP K "_law_taken" s__law_taken (He.ga K "_law_taken") fd) (g : mg "_law_taken" = some (.ref (He.ga K "_law_taken")))  : Cd P w K mg base 2 "_law_taken" 2 f__law_taken := by
  obtain ⟨fd, F⟩ := h
  have b : Binds K fd ["_law_row", "_law_many"] [] := F.bindsN fun _ _ _ _ _ _ us hl => match us, hl with | [_, _], _ => rfl
  exact ⟨_, fd, ["_law_row", "_law_many"], rfl, fn_ok (N := ["_law_row", "_law_many", "_law_found", "_law_cell"]) (k := 1) F sc__law_taken (dn := d__law_taken) (fun cdv A outer s H E hr => ⟨_, (ess_cons (es_if (et_cmp cm_gt (ee_rw (i := 0) (j := 3)) ee_int) (ess_cons (es_set (i := 2) sc__law_taken.nd rfl (.inl rfl) (ee_mod (ee_callT call_int1 sl_int (by rfl) T.f_int (by decide +kernel) (ea_cons (ee_rw (i := 0) (j := 3)) ea_nil)) (ee_var 1)))
    (ess_cons (es_rw (i := 0) (j := 3) (ee_fdiv (ee_rw (i := 0) (j := 3)) (ee_var 1)))
    (ess_one (es_ret (ee_var 2))))) ess_nil)
    (ess_cons (es_rw (i := 0) (j := 1) (ee_add (ee_rw (i := 0) (j := 1)) ee_int))
    (ess_cons (es_if (et_cmp cm_gt (ee_rw (i := 0) (j := 1)) (ee_callB call_len sl_len (by rfl) T.f_len (by decide +kernel) (ea_cons (ee_rw (i := 0) (j := 0)) ea_nil))) (ess_cons (es_rw (i := 0) (j := 2) (ee_mod (ee_callT call_int1 sl_int (by rfl) T.f_int (by decide +kernel) (ea_cons (ee_add (ee_mul (ee_rw (i := 0) (j := 2)) ee_int) ee_int) ea_nil)) ee_int))
    (ess_one (es_ret (ee_mod (ee_callT call_int1 sl_int (by rfl) T.f_int (by decide +kernel) (ea_cons (ee_fdiv (ee_rw (i := 0) (j := 2)) ee_int) ea_nil)) (ee_var 1))))) ess_nil)
    (ess_cons (es_set (i := 3) sc__law_taken.nd rfl (.inl rfl) (ee_ix (ee_rw (i := 0) (j := 0)) (ee_sub (ee_rw (i := 0) (j := 1)) ee_int)))
    (ess_cons (es_rw (i := 0) (j := 2) (ee_mod (ee_callT call_int1 sl_int (by rfl) T.f_int (by decide +kernel) (ea_cons (ee_add (ee_add (ee_mul (ee_rw (i := 0) (j := 2)) ee_int) (ee_var 3)) ee_int) ea_nil)) ee_int))
    (ess_cons (es_if (et_cmp cm_ge (ee_var 3) (ee_pow ee_int ee_int)) (ess_one (es_rw (i := 0) (j := 3) (ee_fdiv (ee_var 3) (ee_var 1)))) ess_nil)
    (ess_one (es_ret (ee_mod (ee_callT call_int1 sl_int (by rfl) T.f_int (by decide +kernel) (ea_cons (ee_var 3) ea_nil)) (ee_var 1))))))))))⟩), g, F.kp, b⟩
theorem ok__law_pick (T : Tx K w mg) (h : ∃ fd, FnP K "_law_pick" s__law_pick (He.ga K "_law_pick") fd) (g : mg "_law_pick" = some (.ref (He.ga K "_law_pick"))) (C__law_taken : Cd P w K mg base 2 "_law_taken" 2 f__law_taken) : Cd P w K mg base 3 "_law_pick" 2 f__law_pick := by
  obtain ⟨fd, F⟩ := h
  have b : Binds K fd ["_law_row", "_law_kinds"] [] := F.bindsN fun _ _ _ _ _ _ us hl => match us, hl with | [_, _], _ => rfl
  exact ⟨_, fd, ["_law_row", "_law_kinds"], rfl, fn_ok (N := ["_law_row", "_law_kinds"]) (k := 2) F sc__law_pick (dn := d__law_pick) (fun cdv A outer s H E hr => ⟨_, (ess_one (es_ret (ee_ix (ee_var 1) (ee_call C__law_taken hr (by decide) (by rfl) (ea_cons (ee_var 0) (ea_cons (ee_callB call_len sl_len (by rfl) T.f_len (by decide +kernel) (ea_cons (ee_var 1) ea_nil)) ea_nil)) (len_cons (len_cons len_nil))))))⟩), g, F.kp, b⟩
theorem ok__law_alike (T : Tx K w mg) (h : ∃ fd, FnP K "_law_alike" s__law_alike (He.ga K "_law_alike") fd) (g : mg "_law_alike" = some (.ref (He.ga K "_law_alike")))  : ∀ n : Nat, Cd P w K mg base (2 + n) "_law_alike" 2 (f__law_alike n) := by
  obtain ⟨fd, F⟩ := h
  have b : Binds K fd ["_law_found", "_law_due"] [] := F.bindsN fun _ _ _ _ _ _ us hl => match us, hl with | [_, _], _ => rfl
  intro n
  induction n with
  | zero => exact ⟨_, fd, ["_law_found", "_law_due"], rfl, fn_ok (N := ["_law_found", "_law_due", "_law_k"]) (k := 1) F sc__law_alike (dn := dNever) (fun cdv A outer s H E hr => ⟨_, ess_never⟩), g, F.kp, b⟩
  | succ n ih => exact ⟨_, fd, ["_law_found", "_law_due"], rfl, fn_ok (N := ["_law_found", "_law_due", "_law_k"]) (k := 2 + n) F sc__law_alike (dn := d__law_alike (f__law_alike n)) (fun cdv A outer s H E hr => ⟨_, (ess_cons (es_if (et_val (ee_isi2 (u := "tuple") (w := "list") (by decide) (by decide) (by rfl) T.f_isinstance (by rfl) T.f_tuple (by decide +kernel) (by rfl) T.f_list (by decide +kernel) (ee_var 1))) (ess_cons (es_if (EW.t (ew_or (et_not (et_val (ee_isi2 (u := "tuple") (w := "list") (by decide) (by decide) (by rfl) T.f_isinstance (by rfl) T.f_tuple (by decide +kernel) (by rfl) T.f_list (by decide +kernel) (ee_var 0)))) (ew_or1 (et_cmp (cm_ne hr) (ee_isi (u := "list") (by decide) (by rfl) T.f_isinstance (by rfl) T.f_list (by decide +kernel) (ee_var 0)) (ee_isi (u := "list") (by decide) (by rfl) T.f_isinstance (by rfl) T.f_list (by decide +kernel) (ee_var 1)))))) (ess_one (es_ret ee_bl)) ess_nil)
    (ess_cons (es_if (et_cmp (cm_ne hr) (ee_callB call_len sl_len (by rfl) T.f_len (by decide +kernel) (ea_cons (ee_var 0) ea_nil)) (ee_callB call_len sl_len (by rfl) T.f_len (by decide +kernel) (ea_cons (ee_var 1) ea_nil))) (ess_one (es_ret ee_bl)) ess_nil)
    (ess_one (es_ret (ee_cmp (cm_eq hr) (ee_lc (own := [("_law_k", 2)]) rfl sc__law_alike.nd (ei_rng1 (by rfl) T.f_range (ea_cons (ee_callB call_len sl_len (by rfl) T.f_len (by decide +kernel) (ea_cons (ee_var 1) ea_nil)) ea_nil)) (by rfl) (egb_mk fun _ _ _ _ _ => (eg_name (i := 2) sc__law_alike.nd rfl (by first | exact .inl rfl | exact .inr rfl))) (etb_one fun _ _ _ _ _ => (et_not (et_val (ee_call ih hr (by omega) (by rfl) (ea_cons (ee_ix (ee_var 0) (ee_var 2)) (ea_cons (ee_ix (ee_var 1) (ee_var 2)) ea_nil)) (len_cons (len_cons len_nil)))))) (eeb_mk fun _ _ _ _ _ => (ee_var 2))) (ee_lst ea_nil)))))) ess_nil)
    (ess_cons (es_if (EW.t (ew_or (et_isN (ee_var 1)) (ew_or1 (et_val (ee_isi (u := "str") (by decide) (by rfl) T.f_isinstance (by rfl) T.f_str (by decide +kernel) (ee_var 1)))))) (ess_one (es_ret (ee_and (ee_cmp (cm_eq hr) (ee_var 0) (ee_var 1)) (ee_one (ee_cmp (cm_eq hr) (ee_isi (u := "str") (by decide) (by rfl) T.f_isinstance (by rfl) T.f_str (by decide +kernel) (ee_var 0)) (ee_isi (u := "str") (by decide) (by rfl) T.f_isinstance (by rfl) T.f_str (by decide +kernel) (ee_var 1))))))) ess_nil)
    (ess_one (es_ret (ee_and (ee_isi (u := "int") (by decide) (by rfl) T.f_isinstance (by rfl) T.f_int (by decide +kernel) (ee_var 0)) (ee_and (ee_cmp (cm_eq hr) (ee_isi (u := "bool") (by decide) (by rfl) T.f_isinstance (by rfl) T.f_bool (by decide +kernel) (ee_var 0)) (ee_isi (u := "bool") (by decide) (by rfl) T.f_isinstance (by rfl) T.f_bool (by decide +kernel) (ee_var 1))) (ee_one (ee_cmp (cm_eq hr) (ee_var 0) (ee_var 1)))))))))⟩), g, F.kp, b⟩
theorem ok__law_answer (T : Tx K w mg) (h : ∃ fd, FnP K "_law_answer" s__law_answer (He.ga K "_law_answer") fd) (g : mg "_law_answer" = some (.ref (He.ga K "_law_answer")))  : Cd P w K mg base 2 "_law_answer" 2 f__law_answer := by
  obtain ⟨fd, F⟩ := h
  have b : Binds K fd ["_law_way", "_law_text"] [] := F.bindsN fun _ _ _ _ _ _ us hl => match us, hl with | [_, _], _ => rfl
  exact ⟨_, fd, ["_law_way", "_law_text"], rfl, fn_ok (N := ["_law_way", "_law_text", "_law_more", "_law_ties", "_law_good", "_law_changes", "_law_at"]) (k := 1) F sc__law_answer (dn := d__law_answer) (fun cdv A outer s H E hr => ⟨_, (ess_cons (es_set (i := 2) sc__law_answer.nd rfl (.inl rfl) (ee_sub (ee_bmS PySem.F.slot_str_count PySem.F.type_str_count mt_count sm_count (ee_var 1) (ea_cons ee_str ea_nil)) (ee_bmS PySem.F.slot_str_count PySem.F.type_str_count mt_count sm_count (ee_var 1) (ea_cons ee_str ea_nil))))
    (ess_cons (es_if (et_cmp (cm_eq hr) (ee_sl (ee_var 0) eo_none (eo_some ee_int)) ee_str) (ess_cons (es_set (i := 3) sc__law_answer.nd rfl (.inl rfl) (ee_disp (ep_cons ee_str ee_str (ep_cons ee_str ee_str (ep_cons ee_str (ee_ix (ee_var 1) ee_int) (ep_cons ee_str (ee_ix (ee_var 1) (ee_neg ee_int)) ep_nil))))))
    (ess_one (es_ret (ee_if (et_cmp (cm_eq hr) (ee_var 2) ee_int) (ee_dget hr (ee_var 3) (ee_sl (ee_var 0) (eo_some ee_int) eo_none)) (ee_if (et_cmp cm_gt (ee_var 2) ee_int) ee_str ee_str))))) ess_nil)
    (ess_cons (es_if (et_cmp (cm_in hr) (ee_var 0) (ee_lst (ea_cons ee_str (ea_cons ee_str ea_nil)))) (ess_one (es_ret (ee_ix (ee_var 1) (ee_if (et_cmp (cm_eq hr) (ee_var 0) ee_str) ee_int (ee_sub (ee_callB call_len sl_len (by rfl) T.f_len (by decide +kernel) (ea_cons (ee_var 1) ea_nil)) ee_int))))) ess_nil)
    (ess_cons (es_set (i := 4) sc__law_answer.nd rfl (.inl rfl) (ee_cmp (cm_eq hr) (ee_var 0) ee_str))
    (ess_cons (es_if (et_cmp (cm_eq hr) (ee_var 0) ee_str) (ess_one (es_set (i := 4) sc__law_answer.nd rfl (.inl rfl) (ee_cmp cm_gt (ee_bmS PySem.F.slot_str_count PySem.F.type_str_count mt_count sm_count (ee_var 1) (ea_cons ee_str ea_nil)) ee_int))) ess_nil)
    (ess_cons (es_if (et_cmp (cm_eq hr) (ee_var 0) ee_str) (ess_one (es_set (i := 4) sc__law_answer.nd rfl (.inl rfl) (ee_cmp (cm_eq hr) (ee_bmS PySem.F.slot_str_count PySem.F.type_str_count mt_count sm_count (ee_var 1) (ea_cons ee_str ea_nil)) ee_int))) ess_nil)
    (ess_cons (es_if (et_cmp (cm_eq hr) (ee_var 0) ee_str) (ess_one (es_set (i := 4) sc__law_answer.nd rfl (.inl rfl) (ee_cmp (cm_in hr) (ee_bmS PySem.F.slot_str_count PySem.F.type_str_count mt_count sm_count (ee_var 1) (ea_cons ee_str ea_nil)) (ee_lst (ea_cons ee_int (ea_cons ee_int (ea_cons ee_int (ea_cons ee_int (ea_cons ee_int (ea_cons ee_int (ea_cons ee_int ea_nil))))))))))) ess_nil)
    (ess_cons (es_if (et_cmp (cm_eq hr) (ee_var 0) ee_str) (ess_one (es_set (i := 4) sc__law_answer.nd rfl (.inl rfl) (ee_cmp (cm_eq hr) (ee_add (ee_sl (ee_var 1) eo_none (eo_some ee_int)) (ee_sl (ee_var 1) (eo_some (ee_neg ee_int)) eo_none)) ee_str))) ess_nil)
    (ess_cons (es_if (et_cmp (cm_eq hr) (ee_var 0) ee_str) (ess_cons (es_lc (i := 5) (own := [("_law_at", 6)]) rfl sc__law_answer.nd rfl rfl (sw_true rfl rfl rfl (by decide +kernel)) (ei_rng2 (by rfl) T.f_range (ea_cons ee_int (ea_cons (ee_callB call_len sl_len (by rfl) T.f_len (by decide +kernel) (ea_cons (ee_var 1) ea_nil)) ea_nil))) (by rfl) (egb_mk fun _ _ _ _ _ => (eg_name (i := 6) sc__law_answer.nd rfl (by first | exact .inl rfl | exact .inr rfl))) (etb_one fun _ _ _ _ _ => (et_cmp (cm_ne hr) (ee_ix (ee_var 1) (ee_var 6)) (ee_ix (ee_var 1) (ee_sub (ee_var 6) ee_int)))) (eeb_mk fun _ _ _ _ _ => (ee_var 6)))
    (ess_one (es_set (i := 4) sc__law_answer.nd rfl (.inl rfl) (ee_or (ee_and (ee_cmp (cm_eq hr) (ee_ix (ee_var 1) ee_int) ee_str) (ee_one (ee_cmp (cm_eq hr) (ee_var 5) (ee_lst ea_nil)))) (ee_one (ee_and (ee_cmp (cm_eq hr) (ee_ix (ee_var 1) ee_int) ee_str) (ee_one (ee_cmp (cm_eq hr) (ee_callB call_len sl_len (by rfl) T.f_len (by decide +kernel) (ea_cons (ee_var 5) ea_nil)) ee_int)))))))) ess_nil)
    (ess_one (es_ret (ee_if (et_val (ee_var 4)) ee_str ee_str))))))))))))⟩), g, F.kp, b⟩
theorem ok__law_turned (T : Tx K w mg) (h : ∃ fd, FnP K "_law_turned" s__law_turned (He.ga K "_law_turned") fd) (g : mg "_law_turned" = some (.ref (He.ga K "_law_turned")))  : Cd P w K mg base 2 "_law_turned" 1 f__law_turned := by
  obtain ⟨fd, F⟩ := h
  have b : Binds K fd ["_law_text"] [] := F.bindsN fun _ _ _ _ _ _ us hl => match us, hl with | [_], _ => rfl
  exact ⟨_, fd, ["_law_text"], rfl, fn_ok (N := ["_law_text", "_law_sign"]) (k := 1) F sc__law_turned (dn := d__law_turned) (fun cdv A outer s H E hr => ⟨_, (ess_one (es_ret (ee_bmS PySem.F.slot_str_join PySem.F.type_str_join mt_join sm_join ee_str (ea_cons (ee_lc (own := [("_law_sign", 1)]) rfl sc__law_turned.nd (ei_str (ee_var 0)) (by rfl) (egb_mk fun _ _ _ _ _ => (eg_name (i := 1) sc__law_turned.nd rfl (by first | exact .inl rfl | exact .inr rfl))) etb_nil (eeb_mk fun _ _ _ _ _ => (ee_if (et_cmp (cm_eq hr) (ee_var 1) ee_str) ee_str ee_str))) ea_nil))))⟩), g, F.kp, b⟩
theorem ok__law_flip (T : Tx K w mg) (h : ∃ fd, FnP K "_law_flip" s__law_flip (He.ga K "_law_flip") fd) (g : mg "_law_flip" = some (.ref (He.ga K "_law_flip"))) (C__law_turned : Cd P w K mg base 2 "_law_turned" 1 f__law_turned) : Cd P w K mg base 3 "_law_flip" 2 f__law_flip := by
  obtain ⟨fd, F⟩ := h
  have b : Binds K fd ["_law_text", "_law_at"] [] := F.bindsN fun _ _ _ _ _ _ us hl => match us, hl with | [_, _], _ => rfl
  exact ⟨_, fd, ["_law_text", "_law_at"], rfl, fn_ok (N := ["_law_text", "_law_at"]) (k := 2) F sc__law_flip (dn := d__law_flip) (fun cdv A outer s H E hr => ⟨_, (ess_one (es_ret (ee_add (ee_add (ee_sl (ee_var 0) eo_none (eo_some (ee_var 1))) (ee_call C__law_turned hr (by decide) (by rfl) (ea_cons (ee_ix (ee_var 0) (ee_var 1)) ea_nil) (len_cons len_nil))) (ee_sl (ee_var 0) (eo_some (ee_add (ee_var 1) ee_int)) eo_none))))⟩), g, F.kp, b⟩
theorem ok__law_word (T : Tx K w mg) (h : ∃ fd, FnP K "_law_word" s__law_word (He.ga K "_law_word") fd) (g : mg "_law_word" = some (.ref (He.ga K "_law_word")))  : Cd P w K mg base 2 "_law_word" 1 f__law_word := by
  obtain ⟨fd, F⟩ := h
  have b : Binds K fd ["_law_sign"] [] := F.bindsN fun _ _ _ _ _ _ us hl => match us, hl with | [_], _ => rfl
  exact ⟨_, fd, ["_law_sign"], rfl, fn_ok (N := ["_law_sign"]) (k := 1) F sc__law_word (dn := d__law_word) (fun cdv A outer s H E hr => ⟨_, (ess_one (es_ret (ee_dget hr (ee_disp (ep_cons ee_str ee_str (ep_cons ee_str ee_str ep_nil))) (ee_var 0))))⟩), g, F.kp, b⟩
theorem ok__law_voices (T : Tx K w mg) (h : ∃ fd, FnP K "_law_voices" s__law_voices (He.ga K "_law_voices") fd) (g : mg "_law_voices" = some (.ref (He.ga K "_law_voices"))) (C__law_word : Cd P w K mg base 2 "_law_word" 1 f__law_word) : Cd P w K mg base 3 "_law_voices" 1 f__law_voices := by
  obtain ⟨fd, F⟩ := h
  have b : Binds K fd ["_law_text"] [] := F.bindsN fun _ _ _ _ _ _ us hl => match us, hl with | [_], _ => rfl
  exact ⟨_, fd, ["_law_text"], rfl, fn_ok (N := ["_law_text", "_law_sign"]) (k := 2) F sc__law_voices (dn := d__law_voices) (fun cdv A outer s H E hr => ⟨_, (ess_one (es_ret (ee_callT call_tupF sl_tuple (by rfl) T.f_tuple (by decide +kernel) (ea_cons (ee_lc (own := [("_law_sign", 1)]) rfl sc__law_voices.nd (ei_str (ee_var 0)) (by rfl) (egb_mk fun _ _ _ _ _ => (eg_name (i := 1) sc__law_voices.nd rfl (by first | exact .inl rfl | exact .inr rfl))) etb_nil (eeb_mk fun _ _ _ _ _ => (ee_call C__law_word hr (by decide) (by rfl) (ea_cons (ee_var 1) ea_nil) (len_cons len_nil)))) ea_nil))))⟩), g, F.kp, b⟩
theorem ok__law_shown (T : Tx K w mg) (h : ∃ fd, FnP K "_law_shown" s__law_shown (He.ga K "_law_shown") fd) (g : mg "_law_shown" = some (.ref (He.ga K "_law_shown"))) (P_answer : Pd P w K mg base 2 (DC K) "answer" (f_Desk_answer (DC K))) (P_row : Pd P w K mg base 2 (DC K) "row" (f_Desk_row (DC K))) (R_run : Mr P w K mg base 7 (DC K) "run" 2 (fx_Desk_run (DC K))) (C__law_alike : Cd P w K mg base 6 "_law_alike" 2 (f__law_alike 4)) (C__law_answer : Cd P w K mg base 2 "_law_answer" 2 f__law_answer) (C__law_flip : Cd P w K mg base 3 "_law_flip" 2 f__law_flip) (C__law_voices : Cd P w K mg base 3 "_law_voices" 1 f__law_voices) (C__law_word : Cd P w K mg base 2 "_law_word" 1 f__law_word) : Cd P w K mg base 8 "_law_shown" 3 (f__law_shown (DC K)) := by
  obtain ⟨fd, F⟩ := h
  have b : Binds K fd ["_law_desk", "_law_way", "_law_text"] [] := F.bindsN fun _ _ _ _ _ _ us hl => match us, hl with | [_, _, _], _ => rfl
  exact ⟨_, fd, ["_law_desk", "_law_way", "_law_text"], rfl, fn_ok (N := ["_law_desk", "_law_way", "_law_text", "_law_here", "_law_some", "_law_at"]) (k := 7) F sc__law_shown (dn := d__law_shown (DC K)) (fun cdv A outer s H E hr => ⟨_, (ess_cons (es_set (i := 3) sc__law_shown.nd rfl (.inr rfl) (ee_if (et_cmp (cm_ne hr) (ee_var 2) ee_str) (ee_call C__law_answer hr (by decide) (by rfl) (ea_cons (ee_var 1) (ea_cons (ee_var 2) ea_nil)) (len_cons (len_cons len_nil))) ee_non))
    (ess_cons (es_if (et_not (et_val (ee_call C__law_alike hr (by decide) (by rfl) (ea_cons (ee_lst (ea_cons (ee_prop P_row hr (by decide) (ee_var 0)) (ea_cons (ee_prop P_answer hr (by decide) (ee_var 0)) ea_nil))) (ea_cons (ee_lst (ea_cons (ee_call C__law_voices hr (by decide) (by rfl) (ea_cons (ee_var 2) ea_nil) (len_cons len_nil)) (ea_cons (ee_if (et_notN (ee_var 3)) (ee_call C__law_word hr (by decide) (by rfl) (ea_cons (ee_var 3) ea_nil) (len_cons len_nil)) ee_non) ea_nil))) ea_nil)) (len_cons (len_cons len_nil))))) (ess_one (es_ret ee_bl)) ess_nil)
    (ess_cons (es_if (EW.t (ew_or (et_cmp (cm_ne hr) (ee_methA R_run hr (by decide) (ee_var 0) (ea_cons ee_str ea_nil) (len_cons len_nil)) (ee_var 2)) (ew_or1 (et_cmp (cm_ne hr) (ee_methA R_run hr (by decide) (ee_var 0) (ea_cons ee_str ea_nil) (len_cons len_nil)) (ee_if (et_notN (ee_var 3)) (ee_call C__law_word hr (by decide) (by rfl) (ea_cons (ee_var 3) ea_nil) (len_cons len_nil)) ee_str))))) (ess_one (es_ret ee_bl)) ess_nil)
    (ess_cons (es_lc (i := 4) (own := [("_law_at", 5)]) rfl sc__law_shown.nd rfl rfl (sw_true rfl rfl rfl (by decide +kernel)) (ei_rng1 (by rfl) T.f_range (ea_cons (ee_callB call_len sl_len (by rfl) T.f_len (by decide +kernel) (ea_cons (ee_var 2) ea_nil)) ea_nil)) (by rfl) (egb_mk fun _ _ _ _ _ => (eg_name (i := 5) sc__law_shown.nd rfl (by first | exact .inl rfl | exact .inr rfl))) (etb_one fun _ _ _ _ _ => (et_cmp (cm_ne hr) (ee_call C__law_answer hr (by decide) (by rfl) (ea_cons (ee_var 1) (ea_cons (ee_call C__law_flip hr (by decide) (by rfl) (ea_cons (ee_var 2) (ea_cons (ee_var 5) ea_nil)) (len_cons (len_cons len_nil))) ea_nil)) (len_cons (len_cons len_nil))) (ee_var 3))) (eeb_mk fun _ _ _ _ _ => (ee_callT call_str_int sl_strI (by rfl) T.f_str (by decide +kernel) (ea_cons (ee_var 5) ea_nil))))
    (ess_one (es_ret (ee_cmp (cm_eq hr) (ee_methA R_run hr (by decide) (ee_var 0) (ea_cons ee_str ea_nil) (len_cons len_nil)) (ee_if (et_cmp (cm_ne hr) (ee_var 4) (ee_lst ea_nil)) (ee_bmS PySem.F.slot_str_join PySem.F.type_str_join mt_join sm_join ee_str (ea_cons (ee_var 4) ea_nil)) ee_str))))))))⟩), g, F.kp, b⟩
theorem ok__law_ways (T : Tx K w mg) (h : ∃ fd, FnP K "_law_ways" s__law_ways (He.ga K "_law_ways") fd) (g : mg "_law_ways" = some (.ref (He.ga K "_law_ways")))  : Cd P w K mg base 2 "_law_ways" 0 f__law_ways := by
  obtain ⟨fd, F⟩ := h
  have b : Binds K fd [] [] := F.bindsN fun _ _ _ _ _ _ us hl => match us, hl with | [], _ => rfl
  exact ⟨_, fd, [], rfl, fn_ok (N := []) (k := 1) F sc__law_ways (dn := d__law_ways) (fun cdv A outer s H E hr => ⟨_, (ess_one (es_ret (ee_lst (ea_cons ee_str (ea_cons ee_str (ea_cons ee_str (ea_cons ee_str (ea_cons ee_str (ea_cons ee_str (ea_cons ee_str (ea_cons ee_str (ea_cons ee_str (ea_cons ee_str (ea_cons ee_str (ea_cons ee_str (ea_cons ee_str ea_nil))))))))))))))))⟩), g, F.kp, b⟩
theorem ok_Desk_row (T : Tx K w mg) (h : ∃ fd, FnM K "row" "Desk.row" s_Desk_row (gtA K (DC K) "row") fd) (M : PropOf K (DC K) "row" (He.ma K (DC K) "row") (gtA K (DC K) "row")) : Pd P w K mg base 2 (DC K) "row" (f_Desk_row (DC K)) := by
  obtain ⟨fd, F⟩ := h
  have b : Binds K fd ["self"] [] := F.bindsN fun _ _ _ _ _ _ us hl => match us, hl with | [_], _ => rfl
  exact ⟨T.cls, ⟨_, _, fd, ["self"], rfl, M, fn_ok (N := ["self"]) (k := 1) F sc_Desk_row (fun cdv A outer s H E hr => ⟨_, (ess_one (es_ret (ee_fld 1 T.cls T.na_row (ee_var 0))))⟩), b⟩⟩
theorem ok_Desk_answer (T : Tx K w mg) (h : ∃ fd, FnM K "answer" "Desk.answer" s_Desk_answer (gtA K (DC K) "answer") fd) (M : PropOf K (DC K) "answer" (He.ma K (DC K) "answer") (gtA K (DC K) "answer")) : Pd P w K mg base 2 (DC K) "answer" (f_Desk_answer (DC K)) := by
  obtain ⟨fd, F⟩ := h
  have b : Binds K fd ["self"] [] := F.bindsN fun _ _ _ _ _ _ us hl => match us, hl with | [_], _ => rfl
  exact ⟨T.cls, ⟨_, _, fd, ["self"], rfl, M, fn_ok (N := ["self"]) (k := 1) F sc_Desk_answer (fun cdv A outer s H E hr => ⟨_, (ess_one (es_ret (ee_fld 2 T.cls T.na_answer (ee_var 0))))⟩), b⟩⟩
theorem ok_Desk__told (T : Tx K w mg) (h : ∃ fd, FnM K "_told" "Desk._told" s_Desk__told (He.ma K (DC K) "_told") fd) (M : Meth K (DC K) "_told" (He.ma K (DC K) "_told")) (C_matters : Cd P w K mg base 5 "matters" 2 f_matters) (C_signs_of : Cd P w K mg base 2 "signs_of" 1 f_signs_of)  : Md P w K mg base 6 (DC K) "_told" 2 (fun X => spG X 2 (f_Desk__told (DC K))) := by
  obtain ⟨fd, F⟩ := h
  have b : Binds K fd ["self", "line"] [] := F.bindsN fun _ _ _ _ _ _ us hl => match us, hl with | [_, _], _ => rfl
  exact ⟨T.cls, ⟨_, fd, ["self", "line"], rfl, M, fn_ok (N := ["self", "line", "some", "place"]) (k := 5) F sc_Desk__told (fun cdv A outer s H E hr => ⟨_, (ess_cons (es_if (et_cmp (cm_eq hr) (ee_var 1) ee_str) (ess_one (es_ret (ee_call C_signs_of hr (by decide) (by rfl) (ea_cons (ee_fld 1 T.cls T.na_row (ee_var 0)) ea_nil) (len_cons len_nil)))) ess_nil)
    (ess_cons (es_if (et_cmp (cm_eq hr) (ee_var 1) ee_str) (ess_one (es_ret (ee_if (et_isN (ee_fld 2 T.cls T.na_answer (ee_var 0))) ee_str (ee_fld 2 T.cls T.na_answer (ee_var 0))))) ess_nil)
    (ess_cons (es_if (et_cmp (cm_eq hr) (ee_var 1) ee_str) (ess_cons (es_set (i := 2) sc_Desk__told.nd rfl (.inl rfl) (ee_if (et_cmp (cm_ne hr) (ee_fld 1 T.cls T.na_row (ee_var 0)) (ee_tup ea_nil)) (ee_call C_matters hr (by decide) (by rfl) (ea_cons (ee_fld 0 T.cls T.na_way (ee_var 0)) (ea_cons (ee_fld 1 T.cls T.na_row (ee_var 0)) ea_nil)) (len_cons (len_cons len_nil))) (ee_tup ea_nil)))
    (ess_one (es_ret (ee_if (et_cmp (cm_ne hr) (ee_var 2) (ee_tup ea_nil)) (ee_bmS PySem.F.slot_str_join PySem.F.type_str_join mt_join sm_join ee_str (ea_cons (ee_lc (own := [("place", 3)]) rfl sc_Desk__told.nd (ei_tup (ee_var 2)) (by rfl) (egb_mk fun _ _ _ _ _ => (eg_name (i := 3) sc_Desk__told.nd rfl (by first | exact .inl rfl | exact .inr rfl))) etb_nil (eeb_mk fun _ _ _ _ _ => (ee_callT call_str_int sl_strI (by rfl) T.f_str (by decide +kernel) (ea_cons (ee_var 3) ea_nil)))) ea_nil)) ee_str)))) ess_nil)
    (ess_one (es_ret ee_non)))))⟩), b⟩⟩
theorem ok_Desk__lay (T : Tx K w mg) (h : ∃ fd, FnM K "_lay" "Desk._lay" s_Desk__lay (He.ma K (DC K) "_lay") fd) (M : Meth K (DC K) "_lay" (He.ma K (DC K) "_lay")) (C_answer_of : Cd P w K mg base 4 "answer_of" 2 f_answer_of)  : Md P w K mg base 5 (DC K) "_lay" 2 (fun X => spLay X (DC K) (fl_Desk (DC K))) := by
  obtain ⟨fd, F⟩ := h
  have b : Binds K fd ["self", "row"] [] := F.bindsN fun _ _ _ _ _ _ us hl => match us, hl with | [_, _], _ => rfl
  exact ⟨T.cls, ⟨_, fd, ["self", "row"], rfl, M, lay_ok' (CX := CX0) (k := 4) (dl := dl_Desk (DC K)) F sc_Desk__lay rfl T.cls T.na_row T.na_answer (fun cdv A outer s H E hr => ⟨efld_mk (pv 0) (ee_var 1), _, efld_mk (pv 0) (ee_if (et_cmp (cm_ne hr) (ee_var 1) (ee_tup ea_nil)) (ee_call C_answer_of hr (by decide) (by rfl) (ea_cons (ee_fld 0 T.cls T.na_way (ee_var 0)) (ea_cons (ee_var 1) ea_nil)) (len_cons (len_cons len_nil))) ee_non)⟩), b⟩⟩
theorem ok_Desk_0_lay (T : Tx K w mg) (h : ∃ fd, FnM K "_lay" "Desk._lay" s_Desk__lay (He.ma K (DC K) "_lay") fd) (M : Meth K (DC K) "_lay" (He.ma K (DC K) "_lay")) (C_answer_of : Cd P w K mg base 4 "answer_of" 2 f_answer_of)  : Md P w K mg base 5 (DC K) "_lay" 2 (fun X => spLay0 X (DC K) (fun row s => dl_Desk (DC K) [.im (.fn .non), .im row] s)) := by
  obtain ⟨fd, F⟩ := h
  have b : Binds K fd ["self", "row"] [] := F.bindsN fun _ _ _ _ _ _ us hl => match us, hl with | [_, _], _ => rfl
  exact ⟨T.cls, ⟨_, fd, ["self", "row"], rfl, M, lay0_ok' (CX := CX0) (k := 4) (dl := dl_Desk (DC K)) F sc_Desk__lay rfl T.cls T.na_row T.na_answer (fun _ _ _ => rfl) (fun cdv A outer s H E hr => ⟨efld_mk (pv 0) (ee_var 1), _, efld_mk (pv 0) (ee_if (et_cmp (cm_ne hr) (ee_var 1) (ee_tup ea_nil)) (ee_call C_answer_of hr (by decide) (by rfl) (ea_cons (ee_fld 0 T.cls T.na_way (ee_var 0)) (ea_cons (ee_var 1) ea_nil)) (len_cons (len_cons len_nil))) ee_non)⟩), b⟩⟩
theorem ok_Desk_init (T : Tx K w mg) (h : ∃ fd, FnM K "__init__" "Desk.__init__" s_Desk___init__ (He.ma K (DC K) "__init__") fd) (M : Mk K (DC K) (He.ma K (DC K) "__init__")) (g : mg "Desk" = some (.ref (DC K))) (L0 : Md P w K mg base 5 (DC K) "_lay" 2 (fun X => spLay0 X (DC K) (fun row s => dl_Desk (DC K) [.im (.fn .non), .im row] s))) (C_need_way : Cd P w K mg base 2 "need_way" 1 f_need_way) : Kd CX0 P w K mg base 6 "Desk" (fi_Desk (DC K)) := by
  obtain ⟨fd, F⟩ := h
  have b : Binds K fd ["self", "way"] [] := F.bindsN fun _ _ _ _ _ _ us hl => match us, hl with | [_, _], _ => rfl
  exact ⟨_, fd, ["self", "way"], rfl, M, init_ok' (CX := CX0) (k := 5) (fw := f_need_way) (dl := dl_Desk (DC K)) F sc_Desk_init rfl T.cls T.na_way (fun cdv A outer s H E hr => ⟨_, _, edrp_mk (ee_call C_need_way hr (by decide) (by rfl) (ea_cons (ee_var 1) ea_nil) (len_cons len_nil)), efld_mk (pv 0) (ee_var 1), elay0_mk L0 hr (by decide) (pv 0) (ea_cons (ee_tup ea_nil) ea_nil)⟩), g, b⟩
theorem ok_Desk_xrun (T : Tx K w mg) (h : ∃ fd, FnM K "run" "Desk.run" s_Desk_run (He.ma K (DC K) "run") fd) (M : Meth K (DC K) "run" (He.ma K (DC K) "run")) (M__told : Md P w K mg base 6 (DC K) "_told" 2 (fun X => spG X 2 (f_Desk__told (DC K)))) (C_need_text : Cr (L2N.CX P w) P w K mg base 2 "need_text" 1 fx_need_text)  : Mr P w K mg base 7 (DC K) "run" 2 (fx_Desk_run (DC K)) := by
  have cls_InvalidText := clsB_ok T.cl_InvalidText
  have cls_NotNow := clsB_ok T.cl_NotNow
  obtain ⟨t_MOST_ROW, h_MOST_ROW⟩ := T.c_MOST_ROW
  obtain ⟨h_VOICES, s_VOICES⟩ := T.c_VOICES
  obtain ⟨fd, F⟩ := h
  have b : Binds K fd ["self", "line"] [] := F.bindsN fun _ _ _ _ _ _ us hl => match us, hl with | [_, _], _ => rfl
  refine ⟨T.cls, ⟨_, fd, ["self", "line"], rfl, M, fnR_ok (CX := L2N.CX P w) (N := ["self", "line", "found"]) (k := 6) F sc_Desk_run (fun cdv A outer s H E hr => ?_), b⟩⟩
  have tk : L2N.Takes (cxOf (L2N.CX P w) P w K mg base ["self", "line", "found"] "Desk.run" (defScope s_Desk_run) (He.ma K (DC K) "run") cdv A outer s H E) (fun cls d _ H => E cls d H) := L2N.takes_of rfl rfl rfl rfl
  exact ⟨_, (exs_cons (ex_expr (exe_call C_need_text hr (by decide) (fun σ => L2N.passAt tk σ) (by rfl) (ea_cons (ee_var 1) ea_nil) (len_cons len_nil)))
    (exs_cons (ex_lift (es_set (i := 2) sc_Desk_run.nd rfl (.inl rfl) (ee_meth M__told hr (by decide) (ee_var 0) (ea_cons (ee_var 1) ea_nil) (len_cons len_nil))))
    (exs_cons (ex_lift (es_if (et_notN (ee_var 2)) (ess_one (es_ret (ee_var 2))) ess_nil))
    (exs_cons (ex_if (et_cmp (cm_nin hr) (ee_var 1) (ee_glob (v := .ref (He.ga K "VOICES")) (by rfl) h_VOICES rfl (fun _ I => .ktp (s_VOICES I) (RepL.strs _)))) (exs_cons (ex_raise (cx := "InvalidText") rfl tk PySem.F.excBase_ValueError cls_InvalidText.exc T.g_InvalidText cls_InvalidText.kp (raises_own cls_InvalidText.sub cls_InvalidText.ty) (by rfl))
    exs_nil) exs_nil)
    (exs_cons (ex_if (et_cmp (cm_eq hr) (ee_callB call_len sl_len (by rfl) T.f_len (by decide +kernel) (ea_cons (ee_fld 1 T.cls T.na_row (ee_var 0)) ea_nil)) (ee_glob (v := .int _) (by rfl) h_MOST_ROW ⟨t_MOST_ROW, rfl⟩ (fun _ _ => .int _))) (exs_cons (ex_raise (cx := "NotNow") rfl tk PySem.F.excBase_ValueError cls_NotNow.exc T.g_NotNow cls_NotNow.kp (raises_own cls_NotNow.sub cls_NotNow.ty) (by rfl))
    exs_nil) exs_nil)
    exs_never)))))⟩
theorem ok_Desk_wrun (T : Tx K w mg) (h : ∃ fd, FnM K "run" "Desk.run" s_Desk_run (He.ma K (DC K) "run") fd) (M : Meth K (DC K) "run" (He.ma K (DC K) "run")) (M__lay : Md P w K mg base 5 (DC K) "_lay" 2 (fun X => spLay X (DC K) (fl_Desk (DC K)))) (M__told : Md P w K mg base 6 (DC K) "_told" 2 (fun X => spG X 2 (f_Desk__told (DC K)))) (C_need_text : Cr (L2N.CX P w) P w K mg base 2 "need_text" 1 fx_need_text)  : Mm CX0 P w K mg base 7 (DC K) "run" 2 (fm_Desk_run (DC K)) := by
  obtain ⟨t_MOST_ROW, h_MOST_ROW⟩ := T.c_MOST_ROW
  obtain ⟨h_VOICES, s_VOICES⟩ := T.c_VOICES
  obtain ⟨fd, F⟩ := h
  have b : Binds K fd ["self", "line"] [] := F.bindsN fun _ _ _ _ _ _ us hl => match us, hl with | [_, _], _ => rfl
  exact ⟨T.cls, ⟨_, fd, ["self", "line"], rfl, M, fnM_ok (CX := CX0) (N := ["self", "line", "found"]) (k := 6) (dm := dm_Desk_run (DC K)) F sc_Desk_run (fun cdv A outer s H E hr => ⟨_, (em_cons (ep_drop (ee_callA C_need_text hr (by decide) passN0 (by rfl) (ea_cons (ee_var 1) ea_nil) (len_cons len_nil)))
    (em_cons (ep_set (i := 2) (by decide) sc_Desk_run.nd rfl (.inl rfl) (ee_meth M__told hr (by decide) (ee_var 0) (ea_cons (ee_var 1) ea_nil) (len_cons len_nil)))
    (em_cons (ep_if (et_notN (ee_var 2)) (ess_one (es_ret (ee_var 2))).p)
    (em_cons (ep_if (et_cmp (cm_nin hr) (ee_var 1) (ee_glob (v := .ref (He.ga K "VOICES")) (by rfl) h_VOICES rfl (fun _ I => .ktp (s_VOICES I) (RepL.strs _)))) pss_never)
    (em_cons (ep_if (et_cmp (cm_eq hr) (ee_callB call_len sl_len (by rfl) T.f_len (by decide +kernel) (ea_cons (ee_fld 1 T.cls T.na_row (ee_var 0)) ea_nil)) (ee_glob (v := .int _) (by rfl) h_MOST_ROW ⟨t_MOST_ROW, rfl⟩ (fun _ _ => .int _))) pss_never)
    (em_layR (fl := fl_Desk (DC K)) M__lay hr (by decide) (pv 0) (ea_cons (ee_tup (ea_star (ee_fld 1 T.cls T.na_row (ee_var 0)) (ea_cons (ee_var 1) ea_nil))) ea_nil)))))))⟩), b⟩⟩
theorem ok_Desk_xundo (T : Tx K w mg) (h : ∃ fd, FnM K "undo" "Desk.undo" s_Desk_undo (He.ma K (DC K) "undo") fd) (M : Meth K (DC K) "undo" (He.ma K (DC K) "undo"))   : Mr P w K mg base 2 (DC K) "undo" 1 (fx_Desk_undo (DC K)) := by
  have cls_NothingToUndo := clsB_ok T.cl_NothingToUndo
  obtain ⟨fd, F⟩ := h
  have b : Binds K fd ["self"] [] := F.bindsN fun _ _ _ _ _ _ us hl => match us, hl with | [_], _ => rfl
  refine ⟨T.cls, ⟨_, fd, ["self"], rfl, M, fnR_ok (CX := L2N.CX P w) (N := ["self"]) (k := 1) F sc_Desk_undo (fun cdv A outer s H E hr => ?_), b⟩⟩
  have tk : L2N.Takes (cxOf (L2N.CX P w) P w K mg base ["self"] "Desk.undo" (defScope s_Desk_undo) (He.ma K (DC K) "undo") cdv A outer s H E) (fun cls d _ H => E cls d H) := L2N.takes_of rfl rfl rfl rfl
  exact ⟨_, (exs_cons (ex_if (et_cmp (cm_eq hr) (ee_fld 1 T.cls T.na_row (ee_var 0)) (ee_tup ea_nil)) (exs_cons (ex_raise (cx := "NothingToUndo") rfl tk PySem.F.excBase_ValueError cls_NothingToUndo.exc T.g_NothingToUndo cls_NothingToUndo.kp (raises_own cls_NothingToUndo.sub cls_NothingToUndo.ty) (by rfl))
    exs_nil) exs_nil)
    exs_never)⟩
theorem ok_Desk_wundo (T : Tx K w mg) (h : ∃ fd, FnM K "undo" "Desk.undo" s_Desk_undo (He.ma K (DC K) "undo") fd) (M : Meth K (DC K) "undo" (He.ma K (DC K) "undo")) (M__lay : Md P w K mg base 5 (DC K) "_lay" 2 (fun X => spLay X (DC K) (fl_Desk (DC K))))  : Mm CX0 P w K mg base 6 (DC K) "undo" 1 (fm_Desk_undo (DC K)) := by
  obtain ⟨fd, F⟩ := h
  have b : Binds K fd ["self"] [] := F.bindsN fun _ _ _ _ _ _ us hl => match us, hl with | [_], _ => rfl
  exact ⟨T.cls, ⟨_, fd, ["self"], rfl, M, fnM_ok (CX := CX0) (N := ["self"]) (k := 5) (dm := dm_Desk_undo (DC K)) F sc_Desk_undo (fun cdv A outer s H E hr => ⟨_, (em_cons (ep_if (et_cmp (cm_eq hr) (ee_fld 1 T.cls T.na_row (ee_var 0)) (ee_tup ea_nil)) pss_never)
    (em_lay (fl := fl_Desk (DC K)) M__lay hr (by decide) (pv 0) (ea_cons (ee_slF (ee_fld 1 T.cls T.na_row (ee_var 0)) eo_none (eo_some (ee_neg ee_int))) ea_nil)))⟩), b⟩⟩
theorem ok_law (T : Tx K w mg) {fd : FuncData} (F : FnP K "law" s_law (He.ga K "law") fd) (K_Desk : Kd CX0 P w K mg base 6 "Desk" (fi_Desk (DC K))) (R_run : Mr P w K mg base 7 (DC K) "run" 2 (fx_Desk_run (DC K))) (R_undo : Mr P w K mg base 2 (DC K) "undo" 1 (fx_Desk_undo (DC K))) (W_run : Mm CX0 P w K mg base 7 (DC K) "run" 2 (fm_Desk_run (DC K))) (W_undo : Mm CX0 P w K mg base 6 (DC K) "undo" 1 (fm_Desk_undo (DC K))) (C__law_pick : Cd P w K mg base 3 "_law_pick" 2 f__law_pick) (C__law_shown : Cd P w K mg base 8 "_law_shown" 3 (f__law_shown (DC K))) (C__law_taken : Cd P w K mg base 2 "_law_taken" 2 f__law_taken) (C__law_ways : Cd P w K mg base 2 "_law_ways" 0 f__law_ways) (C__law_word : Cd P w K mg base 2 "_law_word" 1 f__law_word)
    {cc Pt : Addr} (htab : PySem.W.tabIn K "law" = some (cc, Pt)) (TB : LamX.TabB base mg cc Pt) (hlam : lamsSs 60 (lawBody P.main.body) = LAMS) (hT : ∃ fd, FnP K "_law_told" s__law_told (He.ga K "_law_told") fd) (gT : mg "_law_told" = some (.ref (He.ga K "_law_told")))
    (hd : ∀ (cl : List (Str × Addr)) (ns : List Int), ns.length ≤ 63 → ∃ s', d_law (DC K) cl ((Sl.im .tb :: List.replicate 7 .un).set 1 (.im .rw)) ⟨0, 15609, 0, ns⟩ = some (.rt (.bl true) false, s')) :
    FnOk P w K mg base CX0 11 (He.ga K "law") fd ["_law_script"] (spLawT K Pt) := by
  obtain ⟨fT, FT⟩ := hT
  have bT : Binds K fT ["_law_work"] [] := FT.bindsN fun _ _ _ _ _ _ us hl => match us, hl with | [_], _ => rfl
  have EC : ∀ q ∈ NM, ExcC K (He.ga K q.1) := by
    intro q hq
    simp only [NM, List.mem_cons, List.not_mem_nil, or_false] at hq
    rcases hq with rfl | rfl | rfl | rfl
    · exact (clsB_ok T.cl_InvalidText).ec
    · exact (clsB_ok T.cl_NotNow).ec
    · exact (clsB_ok T.cl_NotText).ec
    · exact (clsB_ok T.cl_NothingToUndo).ec
  refine law_okT (N := ["_law_script", "_law_row", "_law_way", "_law_text", "_law_desk", "_law_turn", "_law_deed", "_law_sign"]) (k := 10) (i := 1) (b0 := 15609) (dn := d_law (DC K)) F sc_law (st0 := (defBody s_law).headD (.Pass ⟨0, 0, 0, 0⟩)) (rest := (defBody s_law).tail) rfl (tab_code htab F) htab (fun A outer s H E hr => ⟨ps_set (i := 1) sc_law.nd rfl (.inr rfl) (pe_lst (pa_cons (pv 0) (pa_cons pe_int (pa_cons pe_int (pa_cons pe_int pa_nil))))), ⟨_, (ess_cons (es_par (i := 2) (j := 3) rfl sc_law.nd rfl rfl (by decide) rfl rfl (ea_cons (ee_call C__law_pick hr (by decide) (by rfl) (ea_cons (ee_var 1) (ea_cons (ee_call0 C__law_ways hr (by decide) (by rfl)) ea_nil)) (len_cons (len_cons len_nil))) (ea_cons ee_str ea_nil)))
    (ess_cons (es_own (i := 4) sc_law.nd rfl (.inr rfl) (ef_desk K_Desk hr (by decide) pass0 (by rfl) (ee_var 2)))
    (ess_cons (es_if (EW.t (ew_or (et_cmp (cm_ne hr) (ee_toldT (k := 8) (T := [(0, dx_lam0 (DC K))]) (x := "_law_told") (a := "_law_work") (en := "e") (vx := "VoiceError") FT rfl sc__law_told rfl (.inl rfl) rfl rfl rfl (by decide) T.g_VoiceError (by rfl) (tabs_cons (lamx_mk (k := 8) (n := 0) (t := lamT_0) (lam_at hlam 0 rfl) (by rfl) (.inl ⟨rfl, fun _ _ _ _ _ _ => rfl⟩) (hr.mono (by decide)) (fun A outer s H E f c' hr => (exe_lend 4 (exe_meth0 R_undo hr (by decide) (fun σ => passNX (W := fun cls d _ H => E cls d H) (L2.takes_of rfl rfl rfl rfl) σ) (ee_var 4)))))
    tabs_nil) T.x_exmV (suites_mk (NM := NM) fun nm b hm cdv s H a oe d pn hd hz hf => (ess_cons (es_set (i := 2) sc__law_told.nd rfl (.inl rfl) (ee_lst (ea_cons (ee_isZ (kb := kb_InvalidText) hm EC hz hf T.x_kit_InvalidText (by rfl) T.f_isinstance (ee_var 1).p T.g_InvalidText (by rfl)) (ea_cons (ee_isZ (kb := kb_NotNow) hm EC hz hf T.x_kit_NotNow (by rfl) T.f_isinstance (ee_var 1).p T.g_NotNow (by rfl)) (ea_cons (ee_isZ (kb := kb_NotText) hm EC hz hf T.x_kit_NotText (by rfl) T.f_isinstance (ee_var 1).p T.g_NotText (by rfl)) (ea_cons (ee_isZ (kb := kb_NothingToUndo) hm EC hz hf T.x_kit_NothingToUndo (by rfl) T.f_isinstance (ee_var 1).p T.g_NothingToUndo (by rfl)) ea_nil))))))
    (ess_one (es_ret (ee_if (et_cmp (cm_eqU (hr.deeper (envOfC "" (defScope s__law_told) 0 0 cdv)).units) (ee_bmL PySem.F.slot_list_count PySem.F.type_list_count mt_countB sm_countB (ee_var 2) (ea_cons ee_bl ea_nil)) ee_int) (ee_ix (ee_lst (ea_cons ee_str (ea_cons ee_str (ea_cons ee_str (ea_cons ee_str ea_nil))))) (ee_bmL PySem.F.slot_list_index PySem.F.type_list_index mt_index sm_idxB (ee_var 2) (ea_cons ee_bl ea_nil))) ee_str))))) hr (by rfl) gT FT.kp bT (ee_lam (n := 0) (dflt := false) TB rfl (by rfl) (by rfl) (.inl ⟨rfl, rfl⟩) rfl htab (lam_at hlam 0 (by rfl)))) ee_str) (ew_or1 (et_not (et_val (ee_lend 4 (ee_call C__law_shown hr (by decide) (by rfl) (ea_cons (ee_var 4) (ea_cons (ee_var 2) (ea_cons (ee_var 3) ea_nil))) (len_cons (len_cons (len_cons len_nil)))))))))) (ess_one (es_ret ee_bl)) ess_nil)
    (ess_cons (es_for PassesOwn.never rfl (ei_rng1 (by rfl) T.f_range (ea_cons (ee_call C__law_taken hr (by decide) (by rfl) (ea_cons (ee_var 1) (ea_cons ee_int ea_nil)) (len_cons (len_cons len_nil))) ea_nil)) (eg_name (i := 5) sc_law.nd rfl (by first | exact .inl rfl | exact .inr rfl)) (ess_cons (es_set (i := 6) sc_law.nd rfl (.inl rfl) (ee_call C__law_taken hr (by decide) (by rfl) (ea_cons (ee_var 1) (ea_cons ee_int ea_nil)) (len_cons (len_cons len_nil))))
    (ess_one (es_if (et_cmp (cm_eq hr) (ee_var 6) ee_int) (ess_one (es_if (et_cmp (cm_ne hr) (ee_toldT (k := 8) (T := [(1, dx_lam1 (DC K))]) (x := "_law_told") (a := "_law_work") (en := "e") (vx := "VoiceError") FT rfl sc__law_told rfl (.inl rfl) rfl rfl rfl (by decide) T.g_VoiceError (by rfl) (tabs_cons (lamx_mk (k := 8) (n := 1) (t := lamT_1) (lam_at hlam 1 rfl) (by rfl) (.inl ⟨rfl, fun _ _ _ _ _ _ => rfl⟩) (hr.mono (by decide)) (fun A outer s H E f c' hr => (exe_lend 4 (exe_meth R_run hr (by decide) (fun σ => passNX (W := fun cls d _ H => E cls d H) (L2.takes_of rfl rfl rfl rfl) σ) (ee_var 4) (ea_cons (ee_call C__law_pick hr (by decide) (by rfl) (ea_cons (ee_var 1) (ea_cons (ee_lst (ea_cons ee_str (ea_cons ee_str (ea_cons ee_str (ea_cons ee_str (ea_cons ee_str (ea_cons ee_str ea_nil))))))) ea_nil)) (len_cons (len_cons len_nil))) ea_nil) (len_cons len_nil)))))
    tabs_nil) T.x_exmV (suites_mk (NM := NM) fun nm b hm cdv s H a oe d pn hd hz hf => (ess_cons (es_set (i := 2) sc__law_told.nd rfl (.inl rfl) (ee_lst (ea_cons (ee_isZ (kb := kb_InvalidText) hm EC hz hf T.x_kit_InvalidText (by rfl) T.f_isinstance (ee_var 1).p T.g_InvalidText (by rfl)) (ea_cons (ee_isZ (kb := kb_NotNow) hm EC hz hf T.x_kit_NotNow (by rfl) T.f_isinstance (ee_var 1).p T.g_NotNow (by rfl)) (ea_cons (ee_isZ (kb := kb_NotText) hm EC hz hf T.x_kit_NotText (by rfl) T.f_isinstance (ee_var 1).p T.g_NotText (by rfl)) (ea_cons (ee_isZ (kb := kb_NothingToUndo) hm EC hz hf T.x_kit_NothingToUndo (by rfl) T.f_isinstance (ee_var 1).p T.g_NothingToUndo (by rfl)) ea_nil))))))
    (ess_one (es_ret (ee_if (et_cmp (cm_eqU (hr.deeper (envOfC "" (defScope s__law_told) 0 0 cdv)).units) (ee_bmL PySem.F.slot_list_count PySem.F.type_list_count mt_countB sm_countB (ee_var 2) (ea_cons ee_bl ea_nil)) ee_int) (ee_ix (ee_lst (ea_cons ee_str (ea_cons ee_str (ea_cons ee_str (ea_cons ee_str ea_nil))))) (ee_bmL PySem.F.slot_list_index PySem.F.type_list_index mt_index sm_idxB (ee_var 2) (ea_cons ee_bl ea_nil))) ee_str))))) hr (by rfl) gT FT.kp bT (ee_lam (n := 1) (dflt := false) TB rfl (by rfl) (by rfl) (.inl ⟨rfl, rfl⟩) rfl htab (lam_at hlam 1 (by rfl)))) ee_str) (ess_one (es_ret ee_bl)) ess_nil)) (ess_one (es_if (et_cmp (cm_eq hr) (ee_var 6) ee_int) (ess_one (es_if (et_cmp (cm_ne hr) (ee_toldT (k := 8) (T := [(2, dx_lam2 (DC K))]) (x := "_law_told") (a := "_law_work") (en := "e") (vx := "VoiceError") FT rfl sc__law_told rfl (.inl rfl) rfl rfl rfl (by decide) T.g_VoiceError (by rfl) (tabs_cons (lamx_mk (k := 8) (n := 2) (t := lamT_2) (lam_at hlam 2 rfl) (by rfl) (.inl ⟨rfl, fun _ _ _ _ _ _ => rfl⟩) (hr.mono (by decide)) (fun A outer s H E f c' hr => (exe_lend 4 (exe_meth R_run hr (by decide) (fun σ => passNX (W := fun cls d _ H => E cls d H) (L2.takes_of rfl rfl rfl rfl) σ) (ee_var 4) (ea_cons (ee_call C__law_pick hr (by decide) (by rfl) (ea_cons (ee_var 1) (ea_cons (ee_lst (ea_cons ee_non (ea_cons ee_int (ea_cons (ee_lst (ea_cons ee_str ea_nil)) (ea_cons (ee_tup (ea_cons ee_str ea_nil)) ea_nil))))) ea_nil)) (len_cons (len_cons len_nil))) ea_nil) (len_cons len_nil)))))
    tabs_nil) T.x_exmV (suites_mk (NM := NM) fun nm b hm cdv s H a oe d pn hd hz hf => (ess_cons (es_set (i := 2) sc__law_told.nd rfl (.inl rfl) (ee_lst (ea_cons (ee_isZ (kb := kb_InvalidText) hm EC hz hf T.x_kit_InvalidText (by rfl) T.f_isinstance (ee_var 1).p T.g_InvalidText (by rfl)) (ea_cons (ee_isZ (kb := kb_NotNow) hm EC hz hf T.x_kit_NotNow (by rfl) T.f_isinstance (ee_var 1).p T.g_NotNow (by rfl)) (ea_cons (ee_isZ (kb := kb_NotText) hm EC hz hf T.x_kit_NotText (by rfl) T.f_isinstance (ee_var 1).p T.g_NotText (by rfl)) (ea_cons (ee_isZ (kb := kb_NothingToUndo) hm EC hz hf T.x_kit_NothingToUndo (by rfl) T.f_isinstance (ee_var 1).p T.g_NothingToUndo (by rfl)) ea_nil))))))
    (ess_one (es_ret (ee_if (et_cmp (cm_eqU (hr.deeper (envOfC "" (defScope s__law_told) 0 0 cdv)).units) (ee_bmL PySem.F.slot_list_count PySem.F.type_list_count mt_countB sm_countB (ee_var 2) (ea_cons ee_bl ea_nil)) ee_int) (ee_ix (ee_lst (ea_cons ee_str (ea_cons ee_str (ea_cons ee_str (ea_cons ee_str ea_nil))))) (ee_bmL PySem.F.slot_list_index PySem.F.type_list_index mt_index sm_idxB (ee_var 2) (ea_cons ee_bl ea_nil))) ee_str))))) hr (by rfl) gT FT.kp bT (ee_lam (n := 2) (dflt := false) TB rfl (by rfl) (by rfl) (.inl ⟨rfl, rfl⟩) rfl htab (lam_at hlam 2 (by rfl)))) ee_str) (ess_one (es_ret ee_bl)) ess_nil)) (ess_one (es_if (EW.t (ew_and (et_cmp (cm_eq hr) (ee_var 6) ee_int) (ew_and1 (et_cmp (cm_ne hr) (ee_var 3) ee_str)))) (ess_cons (es_mut0 4 W_undo hr (by decide) pass0 (ee_var 4).p)
    (ess_one (es_set (i := 3) sc_law.nd rfl (.inl rfl) (ee_sl (ee_var 3) eo_none (eo_some (ee_neg ee_int)))))) (ess_one (es_if (et_cmp cm_lt (ee_callB call_len sl_len (by rfl) T.f_len (by decide +kernel) (ea_cons (ee_var 3) ea_nil)) ee_int) (ess_cons (es_set (i := 7) sc_law.nd rfl (.inl rfl) (ee_call C__law_pick hr (by decide) (by rfl) (ea_cons (ee_var 1) (ea_cons (ee_lst (ea_cons ee_str (ea_cons ee_str ea_nil))) ea_nil)) (len_cons (len_cons len_nil))))
    (ess_cons (es_mut1 4 W_run hr (by decide) pass0 (ee_var 4).p (ea_cons (ee_call C__law_word hr (by decide) (by rfl) (ea_cons (ee_var 7) ea_nil) (len_cons len_nil)) ea_nil) (len_cons len_nil) (ess_one (es_ret ee_bl)).p)
    (ess_one (es_set (i := 3) sc_law.nd rfl (.inl rfl) (ee_add (ee_var 3) (ee_var 7)))))) (ess_one (es_if (et_cmp (cm_ne hr) (ee_toldT (k := 8) (T := [(3, dx_lam3 (DC K))]) (x := "_law_told") (a := "_law_work") (en := "e") (vx := "VoiceError") FT rfl sc__law_told rfl (.inl rfl) rfl rfl rfl (by decide) T.g_VoiceError (by rfl) (tabs_cons (lamx_mk (k := 8) (n := 3) (t := lamT_3) (lam_at hlam 3 rfl) (by rfl) (.inl ⟨rfl, fun _ _ _ _ _ _ => rfl⟩) (hr.mono (by decide)) (fun A outer s H E f c' hr => (exe_lend 4 (exe_meth R_run hr (by decide) (fun σ => passNX (W := fun cls d _ H => E cls d H) (L2.takes_of rfl rfl rfl rfl) σ) (ee_var 4) (ea_cons (ee_call C__law_pick hr (by decide) (by rfl) (ea_cons (ee_var 1) (ea_cons (ee_lst (ea_cons ee_str (ea_cons ee_str ea_nil))) ea_nil)) (len_cons (len_cons len_nil))) ea_nil) (len_cons len_nil)))))
    tabs_nil) T.x_exmV (suites_mk (NM := NM) fun nm b hm cdv s H a oe d pn hd hz hf => (ess_cons (es_set (i := 2) sc__law_told.nd rfl (.inl rfl) (ee_lst (ea_cons (ee_isZ (kb := kb_InvalidText) hm EC hz hf T.x_kit_InvalidText (by rfl) T.f_isinstance (ee_var 1).p T.g_InvalidText (by rfl)) (ea_cons (ee_isZ (kb := kb_NotNow) hm EC hz hf T.x_kit_NotNow (by rfl) T.f_isinstance (ee_var 1).p T.g_NotNow (by rfl)) (ea_cons (ee_isZ (kb := kb_NotText) hm EC hz hf T.x_kit_NotText (by rfl) T.f_isinstance (ee_var 1).p T.g_NotText (by rfl)) (ea_cons (ee_isZ (kb := kb_NothingToUndo) hm EC hz hf T.x_kit_NothingToUndo (by rfl) T.f_isinstance (ee_var 1).p T.g_NothingToUndo (by rfl)) ea_nil))))))
    (ess_one (es_ret (ee_if (et_cmp (cm_eqU (hr.deeper (envOfC "" (defScope s__law_told) 0 0 cdv)).units) (ee_bmL PySem.F.slot_list_count PySem.F.type_list_count mt_countB sm_countB (ee_var 2) (ea_cons ee_bl ea_nil)) ee_int) (ee_ix (ee_lst (ea_cons ee_str (ea_cons ee_str (ea_cons ee_str (ea_cons ee_str ea_nil))))) (ee_bmL PySem.F.slot_list_index PySem.F.type_list_index mt_index sm_idxB (ee_var 2) (ea_cons ee_bl ea_nil))) ee_str))))) hr (by rfl) gT FT.kp bT (ee_lam (n := 3) (dflt := false) TB rfl (by rfl) (by rfl) (.inl ⟨rfl, rfl⟩) rfl htab (lam_at hlam 3 (by rfl)))) ee_str) (ess_one (es_ret ee_bl)) ess_nil))))))))))))
    (ess_one (es_ret (ee_lend 4 (ee_call C__law_shown hr (by decide) (by rfl) (ea_cons (ee_var 4) (ea_cons (ee_var 2) (ea_cons (ee_var 3) ea_nil))) (len_cons (len_cons (len_cons len_nil)))))))))))⟩⟩) hd
end
end Rk09
end
set_option Elab.async false
set_option linter.all false
set_option maxRecDepth 100000
set_option maxHeartbeats 4000000
open PySem PySem.Spec PyProof.Rows L2 Dl
namespace Rk09
def dd (x : Str) (st : Stmt) : He.DefD := ⟨(x, none), x, x, defArgs st, defBody st, defScope st, [], []⟩
def dm (x q : Str) (st : Stmt) : He.DefD := ⟨("Desk", some x), x, q, defArgs st, defBody st, defScope st, [], []⟩
def fn : List He.DefD := [dd "need_way" s_need_way, dd "joined" s_joined, dd "said" s_said, dd "most_of" s_most_of, dd "answer_of" s_answer_of, dd "is_voice" s_is_voice, dd "need_row" s_need_row, dd "need_both" s_need_both, dd "turned" s_turned, dd "turned_at" s_turned_at, dd "matters" s_matters, dd "signs_of" s_signs_of, dd "need_text" s_need_text, dd "_law_taken" s__law_taken, dd "_law_pick" s__law_pick, dd "_law_alike" s__law_alike, dd "_law_answer" s__law_answer, dd "_law_turned" s__law_turned, dd "_law_flip" s__law_flip, dd "_law_word" s__law_word, dd "_law_voices" s__law_voices, dd "_law_shown" s__law_shown, dd "_law_ways" s__law_ways, dd "law" s_law, dd "_law_told" s__law_told, dm "__init__" "Desk.__init__" s_Desk___init__, dm "_lay" "Desk._lay" s_Desk__lay, dm "_told" "Desk._told" s_Desk__told, dm "run" "Desk.run" s_Desk_run, dm "undo" "Desk.undo" s_Desk_undo]
def fa0 : List He.Fa := [.glo "need_way", .glo "joined", .glo "said", .glo "most_of", .glo "answer_of", .glo "is_voice", .glo "need_row", .glo "need_both", .glo "turned", .glo "turned_at", .glo "matters", .glo "signs_of", .glo "need_text", .glo "_law_taken", .glo "_law_pick", .glo "_law_alike", .glo "_law_answer", .glo "_law_turned", .glo "_law_flip", .glo "_law_word", .glo "_law_voices", .glo "_law_shown", .glo "_law_ways", .glo "law", .glo "_law_told", .free "bool", .free "enumerate", .free "int", .free "isinstance", .free "len"]
def fa1 : List He.Fa := [.free "list", .free "range", .free "str", .free "tuple", .str "ALLOW" "allow", .str "DENY" "deny", .glo "VOICES", .int "MOST_ROW" 12, .glo "WAYS", .glo "NotNow", .glo "NotText", .glo "InvalidText", .glo "NothingToUndo", .glo "VoiceError", .glo "Desk", .cls "Desk", .noat "Desk" "_way", .noat "Desk" "_row", .noat "Desk" "_answer", .meth "Desk" "_lay", .meth "Desk" "_told", .meth "Desk" "run", .meth "Desk" "undo", .mkr "Desk"]
def fa : List He.Fa := fa0 ++ fa1
def ex_VOICES (K : PySem.W.Frag) : Bool := He.tupB K "VOICES" (l_VOICES.map He.Dv.str)
def ex_WAYS (K : PySem.W.Frag) : Bool := He.tupB K "WAYS" (l_WAYS.map He.Dv.str)
def ex_cl_NotNow (K : PySem.W.Frag) : Bool := clsB K (He.ga K "NotNow")
def ex_cl_NotText (K : PySem.W.Frag) : Bool := clsB K (He.ga K "NotText")
def ex_cl_InvalidText (K : PySem.W.Frag) : Bool := clsB K (He.ga K "InvalidText")
def ex_cl_NothingToUndo (K : PySem.W.Frag) : Bool := clsB K (He.ga K "NothingToUndo")
def ex_exmV (K : PySem.W.Frag) : Bool := NM.all (fun q => decide (PySem.W.exmOne K (.ref (He.ga K q.1)) (.ref (He.ga K "VoiceError")) = some true))
def ex_kit_InvalidText (K : PySem.W.Frag) : Bool := NM.all (fun q => decide (PySem.W.kitOne K (.ref (He.ga K q.1)) (.ref (He.ga K "InvalidText")) = some (kb_InvalidText q.1)))
def ex_kit_NotNow (K : PySem.W.Frag) : Bool := NM.all (fun q => decide (PySem.W.kitOne K (.ref (He.ga K q.1)) (.ref (He.ga K "NotNow")) = some (kb_NotNow q.1)))
def ex_kit_NotText (K : PySem.W.Frag) : Bool := NM.all (fun q => decide (PySem.W.kitOne K (.ref (He.ga K q.1)) (.ref (He.ga K "NotText")) = some (kb_NotText q.1)))
def ex_kit_NothingToUndo (K : PySem.W.Frag) : Bool := NM.all (fun q => decide (PySem.W.kitOne K (.ref (He.ga K q.1)) (.ref (He.ga K "NothingToUndo")) = some (kb_NothingToUndo q.1)))
def ex_pr_row (K : PySem.W.Frag) : Bool := prB K (DC K) "row"
def ex_gt_row (K : PySem.W.Frag) : Bool := gtB K (gtA K (DC K) "row") "Desk.row"
def ex_pr_answer (K : PySem.W.Frag) : Bool := prB K (DC K) "answer"
def ex_gt_answer (K : PySem.W.Frag) : Bool := gtB K (gtA K (DC K) "answer") "Desk.answer"
def ex (K : PySem.W.Frag) : Bool := ex_VOICES K && (ex_WAYS K && (ex_cl_NotNow K && (ex_cl_NotText K && (ex_cl_InvalidText K && (ex_cl_NothingToUndo K && (ex_exmV K && (ex_kit_InvalidText K && (ex_kit_NotNow K && (ex_kit_NotText K && (ex_kit_NothingToUndo K && (ex_pr_row K && (ex_gt_row K && (ex_pr_answer K && (ex_gt_answer K))))))))))))))
def ts : List He.Tab := []
def is_row : He.FnW := some (("row" : Str), ("Desk.row" : Str), defArgs s_Desk_row, FuncBody.stmts (defBody s_Desk_row), defScope s_Desk_row, mainGlobals, [], builtinsNs)
def is_answer : He.FnW := some (("answer" : Str), ("Desk.answer" : Str), defArgs s_Desk_answer, FuncBody.stmts (defBody s_Desk_answer), defScope s_Desk_answer, mainGlobals, [], builtinsNs)
def tl (K : PySem.W.Frag) : Addr × Addr := (PySem.W.tabIn K "law").getD (0, 0)
theorem facts {P : Program} {w : World} {K : PySem.W.Frag} {h : Heap} {mg : Str → Option Value} {f : Addr} (X : K.In h) (G : h.Ns mainGlobals mg) (hfa : mg ("law" : Str) = some (.ref f)) (ct : He.SaysT fa fn ts w K) (hex : ex K = true) (htab : PySem.W.tabIn K "law" = some (tl K)) (hlam : lamsSs 60 (lawBody P.main.body) = LAMS) (hrow : gtW K (gtA K (DC K) "row") = is_row) (hans : gtW K (gtA K (DC K) "answer") = is_answer) :
    ∃ fd : FuncData, (∀ (s : Shared) (v : Value), BindsTo s fd ⟨[v], []⟩ [("_law_script", v)]) ∧ ∀ base : Heap, K.In base → base.Ns mainGlobals mg → LamX.TabB base mg (tl K).1 (tl K).2 → FnOk P w K mg base CX0 11 f fd ["_law_script"] (spLawT K (tl K).2) := by
  unfold ex at hex
  obtain ⟨e_VOICES, hex⟩ := He.ba hex
  obtain ⟨e_WAYS, hex⟩ := He.ba hex
  obtain ⟨e_cl_NotNow, hex⟩ := He.ba hex
  obtain ⟨e_cl_NotText, hex⟩ := He.ba hex
  obtain ⟨e_cl_InvalidText, hex⟩ := He.ba hex
  obtain ⟨e_cl_NothingToUndo, hex⟩ := He.ba hex
  obtain ⟨e_exmV, hex⟩ := He.ba hex
  obtain ⟨e_kit_InvalidText, hex⟩ := He.ba hex
  obtain ⟨e_kit_NotNow, hex⟩ := He.ba hex
  obtain ⟨e_kit_NotText, hex⟩ := He.ba hex
  obtain ⟨e_kit_NothingToUndo, hex⟩ := He.ba hex
  obtain ⟨e_pr_row, hex⟩ := He.ba hex
  obtain ⟨e_gt_row, hex⟩ := He.ba hex
  obtain ⟨e_pr_answer, hex⟩ := He.ba hex
  have e_gt_answer := hex
  unfold ex_VOICES at e_VOICES
  unfold ex_WAYS at e_WAYS
  unfold ex_cl_NotNow at e_cl_NotNow
  unfold ex_cl_NotText at e_cl_NotText
  unfold ex_cl_InvalidText at e_cl_InvalidText
  unfold ex_cl_NothingToUndo at e_cl_NothingToUndo
  unfold ex_exmV at e_exmV
  unfold ex_kit_InvalidText at e_kit_InvalidText
  unfold ex_kit_NotNow at e_kit_NotNow
  unfold ex_kit_NotText at e_kit_NotText
  unfold ex_kit_NothingToUndo at e_kit_NothingToUndo
  unfold ex_pr_row at e_pr_row
  unfold ex_gt_row at e_gt_row
  unfold ex_pr_answer at e_pr_answer
  unfold ex_gt_answer at e_gt_answer
  have T : Tx K w mg := ⟨He.free_ok X G (ct.d.fact 25 (f := .free "bool") rfl),
    He.free_ok X G (ct.d.fact 26 (f := .free "enumerate") rfl),
    He.free_ok X G (ct.d.fact 27 (f := .free "int") rfl),
    He.free_ok X G (ct.d.fact 28 (f := .free "isinstance") rfl),
    He.free_ok X G (ct.d.fact 29 (f := .free "len") rfl),
    He.free_ok X G (ct.d.fact 30 (f := .free "list") rfl),
    He.free_ok X G (ct.d.fact 31 (f := .free "range") rfl),
    He.free_ok X G (ct.d.fact 32 (f := .free "str") rfl),
    He.free_ok X G (ct.d.fact 33 (f := .free "tuple") rfl),
    He.str_ok X G (ct.d.fact 34 (f := .str "ALLOW" "allow") rfl),
    He.str_ok X G (ct.d.fact 35 (f := .str "DENY" "deny") rfl),
    ⟨He.glo_ok X G (ct.d.fact 36 (f := .glo "VOICES") rfl), fun H => He.tupB_ok e_VOICES H⟩,
    He.int_ok X G (ct.d.fact 37 (f := .int "MOST_ROW" 12) rfl),
    ⟨He.glo_ok X G (ct.d.fact 38 (f := .glo "WAYS") rfl), fun H => He.tupB_ok e_WAYS H⟩,
    He.glo_ok X G (ct.d.fact 39 (f := .glo "NotNow") rfl),
    He.glo_ok X G (ct.d.fact 40 (f := .glo "NotText") rfl),
    He.glo_ok X G (ct.d.fact 41 (f := .glo "InvalidText") rfl),
    He.glo_ok X G (ct.d.fact 42 (f := .glo "NothingToUndo") rfl),
    He.glo_ok X G (ct.d.fact 43 (f := .glo "VoiceError") rfl),
    e_cl_NotNow,
    e_cl_NotText,
    e_cl_InvalidText,
    e_cl_NothingToUndo,
    fun q hq => of_decide_eq_true (List.all_eq_true.mp e_exmV q hq),
    fun q hq => of_decide_eq_true (List.all_eq_true.mp e_kit_InvalidText q hq),
    fun q hq => of_decide_eq_true (List.all_eq_true.mp e_kit_NotNow q hq),
    fun q hq => of_decide_eq_true (List.all_eq_true.mp e_kit_NotText q hq),
    fun q hq => of_decide_eq_true (List.all_eq_true.mp e_kit_NothingToUndo q hq),
    He.cls_ok (ct.d.fact 45 (f := .cls "Desk") rfl),
    He.noat_ok (ct.d.fact 46 (f := .noat "Desk" "_way") rfl),
    He.noat_ok (ct.d.fact 47 (f := .noat "Desk" "_row") rfl),
    He.noat_ok (ct.d.fact 48 (f := .noat "Desk" "_answer") rfl)⟩
  have e := hfa.symm.trans (He.glo_ok X G (ct.d.fact 23 (f := .glo "law") rfl))
  cases e
  have hrow' : gtW K (gtA K (DC K) "row") = some (("row" : Str), ("Desk.row" : Str), defArgs s_Desk_row, FuncBody.stmts (defBody s_Desk_row), defScope s_Desk_row, mainGlobals, [], builtinsNs) := hrow
  have hans' : gtW K (gtA K (DC K) "answer") = some (("answer" : Str), ("Desk.answer" : Str), defArgs s_Desk_answer, FuncBody.stmts (defBody s_Desk_answer), defScope s_Desk_answer, mainGlobals, [], builtinsNs) := hans
  have C_need_way : ∀ base : Heap, Cd P w K mg base 2 "need_way" 1 f_need_way := fun base => ok_need_way T (ct.d.def_ 0 (d := dd "need_way" s_need_way) rfl) (He.glo_ok X G (ct.d.fact 0 (f := .glo "need_way") rfl)) 
  have C_joined : ∀ base : Heap, Cd P w K mg base 2 "joined" 1 f_joined := fun base => ok_joined T (ct.d.def_ 1 (d := dd "joined" s_joined) rfl) (He.glo_ok X G (ct.d.fact 1 (f := .glo "joined") rfl)) 
  have C_said : ∀ base : Heap, Cd P w K mg base 2 "said" 1 f_said := fun base => ok_said T (ct.d.def_ 2 (d := dd "said" s_said) rfl) (He.glo_ok X G (ct.d.fact 2 (f := .glo "said") rfl)) 
  have C_most_of : ∀ base : Heap, Cd P w K mg base 3 "most_of" 2 f_most_of := fun base => ok_most_of T (ct.d.def_ 3 (d := dd "most_of" s_most_of) rfl) (He.glo_ok X G (ct.d.fact 3 (f := .glo "most_of") rfl)) (C_said base)
  have C_answer_of : ∀ base : Heap, Cd P w K mg base 4 "answer_of" 2 f_answer_of := fun base => ok_answer_of T (ct.d.def_ 4 (d := dd "answer_of" s_answer_of) rfl) (He.glo_ok X G (ct.d.fact 4 (f := .glo "answer_of") rfl)) (C_joined base) (C_most_of base) (C_said base)
  have M__lay : ∀ base : Heap, Md P w K mg base 5 (DC K) "_lay" 2 (fun X => spLay X (DC K) (fl_Desk (DC K))) := fun base => ok_Desk__lay T (ct.d.def_ 26 (d := dm "_lay" "Desk._lay" s_Desk__lay) rfl) (He.meth_ok (ct.d.fact 49 (f := .meth "Desk" "_lay") rfl)) (C_answer_of base)
  have L0 : ∀ base : Heap, Md P w K mg base 5 (DC K) "_lay" 2 (fun X => spLay0 X (DC K) (fun row s => dl_Desk (DC K) [.im (.fn .non), .im row] s)) := fun base => ok_Desk_0_lay T (ct.d.def_ 26 (d := dm "_lay" "Desk._lay" s_Desk__lay) rfl) (He.meth_ok (ct.d.fact 49 (f := .meth "Desk" "_lay") rfl)) (C_answer_of base)
  have K_Desk : ∀ base : Heap, Kd CX0 P w K mg base 6 "Desk" (fi_Desk (DC K)) := fun base => ok_Desk_init T (ct.d.def_ 25 (d := dm "__init__" "Desk.__init__" s_Desk___init__) rfl) (He.mkr_ok (ct.d.fact 53 (f := .mkr "Desk") rfl)) (He.glo_ok X G (ct.d.fact 44 (f := .glo "Desk") rfl)) (L0 base) (C_need_way base)
  have C_is_voice : ∀ base : Heap, Cd P w K mg base 2 "is_voice" 1 f_is_voice := fun base => ok_is_voice T (ct.d.def_ 5 (d := dd "is_voice" s_is_voice) rfl) (He.glo_ok X G (ct.d.fact 5 (f := .glo "is_voice") rfl)) 
  have C_need_row : ∀ base : Heap, Cd P w K mg base 3 "need_row" 1 f_need_row := fun base => ok_need_row T (ct.d.def_ 6 (d := dd "need_row" s_need_row) rfl) (He.glo_ok X G (ct.d.fact 6 (f := .glo "need_row") rfl)) (C_is_voice base)
  have C_need_both : ∀ base : Heap, Cd P w K mg base 4 "need_both" 2 f_need_both := fun base => ok_need_both T (ct.d.def_ 7 (d := dd "need_both" s_need_both) rfl) (He.glo_ok X G (ct.d.fact 7 (f := .glo "need_both") rfl)) (C_need_row base) (C_need_way base)
  have C_turned : ∀ base : Heap, Cd P w K mg base 2 "turned" 1 f_turned := fun base => ok_turned T (ct.d.def_ 8 (d := dd "turned" s_turned) rfl) (He.glo_ok X G (ct.d.fact 8 (f := .glo "turned") rfl)) 
  have C_turned_at : ∀ base : Heap, Cd P w K mg base 3 "turned_at" 2 f_turned_at := fun base => ok_turned_at T (ct.d.def_ 9 (d := dd "turned_at" s_turned_at) rfl) (He.glo_ok X G (ct.d.fact 9 (f := .glo "turned_at") rfl)) (C_turned base)
  have C_matters : ∀ base : Heap, Cd P w K mg base 5 "matters" 2 f_matters := fun base => ok_matters T (ct.d.def_ 10 (d := dd "matters" s_matters) rfl) (He.glo_ok X G (ct.d.fact 10 (f := .glo "matters") rfl)) (C_answer_of base) (C_need_both base) (C_turned_at base)
  have C_signs_of : ∀ base : Heap, Cd P w K mg base 2 "signs_of" 1 f_signs_of := fun base => ok_signs_of T (ct.d.def_ 11 (d := dd "signs_of" s_signs_of) rfl) (He.glo_ok X G (ct.d.fact 11 (f := .glo "signs_of") rfl)) 
  have M__told : ∀ base : Heap, Md P w K mg base 6 (DC K) "_told" 2 (fun X => spG X 2 (f_Desk__told (DC K))) := fun base => ok_Desk__told T (ct.d.def_ 27 (d := dm "_told" "Desk._told" s_Desk__told) rfl) (He.meth_ok (ct.d.fact 50 (f := .meth "Desk" "_told") rfl)) (C_matters base) (C_signs_of base)
  have C_need_text : ∀ base : Heap, Cr (L2N.CX P w) P w K mg base 2 "need_text" 1 fx_need_text := fun base => ok_need_text T (ct.d.def_ 12 (d := dd "need_text" s_need_text) rfl) (He.glo_ok X G (ct.d.fact 12 (f := .glo "need_text") rfl)) 
  have R_run : ∀ base : Heap, Mr P w K mg base 7 (DC K) "run" 2 (fx_Desk_run (DC K)) := fun base => ok_Desk_xrun T (ct.d.def_ 28 (d := dm "run" "Desk.run" s_Desk_run) rfl) (He.meth_ok (ct.d.fact 51 (f := .meth "Desk" "run") rfl)) (M__told base) (C_need_text base)
  have R_undo : ∀ base : Heap, Mr P w K mg base 2 (DC K) "undo" 1 (fx_Desk_undo (DC K)) := fun base => ok_Desk_xundo T (ct.d.def_ 29 (d := dm "undo" "Desk.undo" s_Desk_undo) rfl) (He.meth_ok (ct.d.fact 52 (f := .meth "Desk" "undo") rfl)) 
  have W_run : ∀ base : Heap, Mm CX0 P w K mg base 7 (DC K) "run" 2 (fm_Desk_run (DC K)) := fun base => ok_Desk_wrun T (ct.d.def_ 28 (d := dm "run" "Desk.run" s_Desk_run) rfl) (He.meth_ok (ct.d.fact 51 (f := .meth "Desk" "run") rfl)) (M__lay base) (M__told base) (C_need_text base)
  have W_undo : ∀ base : Heap, Mm CX0 P w K mg base 6 (DC K) "undo" 1 (fm_Desk_undo (DC K)) := fun base => ok_Desk_wundo T (ct.d.def_ 29 (d := dm "undo" "Desk.undo" s_Desk_undo) rfl) (He.meth_ok (ct.d.fact 52 (f := .meth "Desk" "undo") rfl)) (M__lay base)
  have C__law_taken : ∀ base : Heap, Cd P w K mg base 2 "_law_taken" 2 f__law_taken := fun base => ok__law_taken T (ct.d.def_ 13 (d := dd "_law_taken" s__law_taken) rfl) (He.glo_ok X G (ct.d.fact 13 (f := .glo "_law_taken") rfl)) 
  have C__law_pick : ∀ base : Heap, Cd P w K mg base 3 "_law_pick" 2 f__law_pick := fun base => ok__law_pick T (ct.d.def_ 14 (d := dd "_law_pick" s__law_pick) rfl) (He.glo_ok X G (ct.d.fact 14 (f := .glo "_law_pick") rfl)) (C__law_taken base)
  have P_answer : ∀ base : Heap, Pd P w K mg base 2 (DC K) "answer" (f_Desk_answer (DC K)) := fun base => ok_Desk_answer T (gt_ok hans' e_gt_answer) (prB_ok e_pr_answer)
  have P_row : ∀ base : Heap, Pd P w K mg base 2 (DC K) "row" (f_Desk_row (DC K)) := fun base => ok_Desk_row T (gt_ok hrow' e_gt_row) (prB_ok e_pr_row)
  have C__law_alike : ∀ base : Heap, Cd P w K mg base 6 "_law_alike" 2 (f__law_alike 4) := fun base => ok__law_alike T (ct.d.def_ 15 (d := dd "_law_alike" s__law_alike) rfl) (He.glo_ok X G (ct.d.fact 15 (f := .glo "_law_alike") rfl))  4
  have C__law_answer : ∀ base : Heap, Cd P w K mg base 2 "_law_answer" 2 f__law_answer := fun base => ok__law_answer T (ct.d.def_ 16 (d := dd "_law_answer" s__law_answer) rfl) (He.glo_ok X G (ct.d.fact 16 (f := .glo "_law_answer") rfl)) 
  have C__law_turned : ∀ base : Heap, Cd P w K mg base 2 "_law_turned" 1 f__law_turned := fun base => ok__law_turned T (ct.d.def_ 17 (d := dd "_law_turned" s__law_turned) rfl) (He.glo_ok X G (ct.d.fact 17 (f := .glo "_law_turned") rfl)) 
  have C__law_flip : ∀ base : Heap, Cd P w K mg base 3 "_law_flip" 2 f__law_flip := fun base => ok__law_flip T (ct.d.def_ 18 (d := dd "_law_flip" s__law_flip) rfl) (He.glo_ok X G (ct.d.fact 18 (f := .glo "_law_flip") rfl)) (C__law_turned base)
  have C__law_word : ∀ base : Heap, Cd P w K mg base 2 "_law_word" 1 f__law_word := fun base => ok__law_word T (ct.d.def_ 19 (d := dd "_law_word" s__law_word) rfl) (He.glo_ok X G (ct.d.fact 19 (f := .glo "_law_word") rfl)) 
  have C__law_voices : ∀ base : Heap, Cd P w K mg base 3 "_law_voices" 1 f__law_voices := fun base => ok__law_voices T (ct.d.def_ 20 (d := dd "_law_voices" s__law_voices) rfl) (He.glo_ok X G (ct.d.fact 20 (f := .glo "_law_voices") rfl)) (C__law_word base)
  have C__law_shown : ∀ base : Heap, Cd P w K mg base 8 "_law_shown" 3 (f__law_shown (DC K)) := fun base => ok__law_shown T (ct.d.def_ 21 (d := dd "_law_shown" s__law_shown) rfl) (He.glo_ok X G (ct.d.fact 21 (f := .glo "_law_shown") rfl)) (P_answer base) (P_row base) (R_run base) (C__law_alike base) (C__law_answer base) (C__law_flip base) (C__law_voices base) (C__law_word base)
  have C__law_ways : ∀ base : Heap, Cd P w K mg base 2 "_law_ways" 0 f__law_ways := fun base => ok__law_ways T (ct.d.def_ 22 (d := dd "_law_ways" s__law_ways) rfl) (He.glo_ok X G (ct.d.fact 22 (f := .glo "_law_ways") rfl)) 
  obtain ⟨fd, F⟩ := (ct.d.def_ 23 (d := dd "law" s_law) rfl)
  have b := FunD.bindsA (ps := ["_law_script"]) F fun _ _ _ _ _ _ us hl => match us, hl with | [_], _ => rfl
  refine ⟨fd, fun s v => b s [v] rfl, fun base _ _ TB => ok_law T F (K_Desk base) (R_run base) (R_undo base) (W_run base) (W_undo base) (C__law_pick base) (C__law_shown base) (C__law_taken base) (C__law_ways base) (C__law_word base) htab TB hlam (ct.d.def_ 24 (d := dd "_law_told" s__law_told) rfl) (He.glo_ok X G (ct.d.fact 24 (f := .glo "_law_told") rfl)) (law_pure (DC K))⟩
end Rk09
open PySem PySem.W PyProof.Rows
set_option maxHeartbeats 0 in
theorem PySem.Challenge.cw_rulevoices_k09_whole_desks_holds : PySem.Challenge.rw_rulevoices_k09_whole_desks.Holds := by
  w_on; o_law; k_head; (case hw => w_witness2)
  k_fill
  refine LamX.walk_ofTs (l := PySem.Challenge.rw_rulevoices_k09_whole_desks) (n := 63) (k := 11) (x := "_law_script") (CX := fun _ => L2.CX0) rfl (by decide) rfl ⟨rfl, by decide, by decide⟩ (fun w h Y => PySem.W.km_in_of Y) ?F (fun _ _ _ _ _ h => h)
  case F =>
    intro w mg fa h Y KX G hmg
    have hTb := PySem.W.km_tabs_of Y
    obtain ⟨fd, hb, hF⟩ := Rk09.facts (P := (PySem.Challenge.rw_rulevoices_k09_whole_desks).prog) (w := w) KX G hmg (show He.obsT Rk09.fa Rk09.fn Rk09.ts _ = He.valT Rk09.fn Rk09.ts w by kernel_rfl) (by kernel_rfl) (by kernel_rfl) (by kernel_rfl) (by kernel_rfl) (by kernel_rfl)
    refine ⟨fd, [Rk09.tl _], Dl.spLawT _ (Rk09.tl _).2, fun p hp => ?_, fun p hp => ?_, fun p hp => ?_, hb, fun H a ns hl _ hH hS => ⟨a, ns, rfl, hS, hl, hH _ (List.mem_singleton_self _), fun _ => rfl⟩, fun base h1 h2 h3 => hF base h1 h2 (h3 _ (List.mem_singleton_self _))⟩
    · obtain rfl := List.mem_singleton.mp hp
      exact hTb _ (List.mem_of_elem_eq_true (by kernel_rfl))
    · obtain rfl := List.mem_singleton.mp hp
      kernel_rfl
    · obtain rfl := List.mem_singleton.mp hp
      exact PySem.W.codeHd_of_K KX (by kernel_rfl)
