import PyProof.Rows.All
import Wide.All
import OpenK.AllK
import Wide.FinOn
import HandS.ForMost
import HandS.Exc
import HandS.Style
import HandS.Zip
import HandS.IsInst
import HandS.Wide
import HandS.Defaults
import HandS.TupAny
import HandS.Flow
import HandS.Walk
import HandS.OwnEq
import HandS.Head0
import HandS.Head1
import HandS.Head2
import HandS.HeadEnd
import HandS.HeadHook1
import HandS.HeadHook2
import HandS.TupLe
import HandS.Iter
import PyProof.Draws
import PyProof.EnumMake
import HandS.Deep
import HandS.Text
import KE.KStateDown
import HandS.Words
import HandS.WordsExc
import PySem.Challenge.RW_skyplaced_k94_turns_seen_from_turns
set_option Elab.async false
set_option linter.all false
set_option maxRecDepth 100000
section
-- SkyA: data D, how a value stands for a datum (Rep), how the heap grows (Step), a frame's slots (FI), readings by data (tD). 
namespace Sky
open PySem PySem.Spec PyProof.Rows L2

/-- the program's own classes -/
inductive Cn where
  | Turn | Book | Picture | Only | Two | Nowhere | Tells | Mistaken | Same | Differ | Way | Ways | NoWay | Apart | Mixed | NoBodies
  | Mended | Stuck | View | Whole | Lacks | OnlyHour | Hours | NoHour | Index | Desk | Word | Reader
  deriving DecidableEq, Repr

inductive D where
  | non | bl (b : Bool) | int (i : Int) | str (x : Str)
  | tup (xs : List D) | lst (xs : List D)
  | ins (c : Cn) (fs : List D)
  | dK (kvs : List (Key × D)) | dT (kvs : List (List Key × D))
  | scr | drw

/-- the attributes of an instance, in the order in which its __init__ lays them -/
def Cn.fields : Cn → List Str
  | .Turn => ["rows", "below"] | .Book => ["stars"] | .Picture => ["points"] | .Only => ["turn"] | .Two => ["one", "other"] | .Nowhere => ["most"]
  | .Tells => [] | .Mistaken => ["turn", "pairs"] | .Same => ["turn"] | .Differ => ["places"] | .Way => ["start", "step"] | .Ways => ["one", "other"]
  | .NoWay => ["places"] | .Apart => ["rows"] | .Mixed => ["one", "other"] | .NoBodies => [] | .Mended => ["book"] | .Stuck => ["place", "why"]
  | .View => ["middle", "above", "below"] | .Whole => [] | .Lacks => ["names", "places"] | .OnlyHour => ["hour"] | .Hours => ["one", "other"]
  | .NoHour => ["many", "hour"] | .Index => ["book", "rows"] | .Desk => ["book", "pictures", "before", "least"] | .Word => ["kind", "told", "line", "column"]
  | .Reader => ["words", "at"]

/-- what stands fast: the written part, the classes' places, the script; the draw's list where it is made -/
structure Gh where
  K : PySem.W.Frag
  cls : Cn → Option Addr
  sa : Addr
  ns : List Int
  da : Option Addr
  me : Option (Addr × Addr × Addr)

mutual
/-- a value stands for a datum, over the part of the heap that never changes -/
inductive Rep (G : Gh) (I : Hp) : V → D → Prop
  | non : Rep G I .non .non
  | bl (b : Bool) : Rep G I (.bl b) (.bl b)
  | int (i : Int) : Rep G I (.int i) (.int i)
  | str (x : Str) : Rep G I (.str x) (.str x)
  | tup {a : Addr} {vs : List V} {ds : List D} (h : SqT G.K I a vs) (r : RepL G I vs ds) : Rep G I (.ref a) (.tup ds)
  | lst {a : Addr} {vs : List V} {ds : List D} (h : I a = some (.lst vs)) (r : RepL G I vs ds) : Rep G I (.ref a) (.lst ds)
  | ins {a C dx : Addr} {c : Cn} {vs : List V} {ds : List D} (h : I a = some (.ins C dx (c.fields.zip vs))) (hc : G.cls c = some C) (hl : vs.length = c.fields.length) (r : RepL G I vs ds) : Rep G I (.ref a) (.ins c ds)
  | dK {a : Addr} {kvs : List (Key × V)} {ds : List (Key × D)} (h : Rd I a (.dK kvs)) (hk : kvs.map (·.1) = ds.map (·.1)) (r : RepL G I (kvs.map (·.2)) (ds.map (·.2))) : Rep G I (.ref a) (.dK ds)
  | dT {a : Addr} {kvs : List (List Key × V)} {ds : List (List Key × D)} (h : Rd I a (.dT kvs)) (hk : kvs.map (·.1) = ds.map (·.1)) (r : RepL G I (kvs.map (·.2)) (ds.map (·.2))) : Rep G I (.ref a) (.dT ds)
  | scr : Rep G I (.ref G.sa) .scr
  | drw {a : Addr} (h : G.da = some a) : Rep G I (.ref a) .drw
inductive RepL (G : Gh) (I : Hp) : List V → List D → Prop
  | nil : RepL G I [] []
  | cons {v : V} {d : D} {vs : List V} {ds : List D} (h : Rep G I v d) (t : RepL G I vs ds) : RepL G I (v :: vs) (d :: ds)
end

abbrev Sub (I I' : Hp) : Prop := ∀ a o, I a = some o → I' a = some o
theorem Rd.sub {I I' : Hp} {a : Addr} {u : HO} (s : Sub I I') (h : Rd I a u) : Rd I' a u := by
  rcases h with h | ⟨o, h⟩
  · exact .inl (s _ _ h)
  · exact .inr ⟨o, s _ _ h⟩
theorem sqT_sub {K : PySem.W.Frag} {I I' : Hp} {a : Addr} {vs : List V} (s : Sub I I') (h : SqT K I a vs) : SqT K I' a vs := by
  rcases h with h | h
  · exact .inl (Rd.sub s h)
  · exact .inr h
theorem sqL_sub {K : PySem.W.Frag} {I I' : Hp} {a : Addr} {vs : List V} (s : Sub I I') (h : SqL K I a vs) : SqL K I' a vs := by
  rcases h with h | h
  · exact .inl (Rd.sub s h)
  · exact .inr h

mutual
theorem Rep.sub {G : Gh} {I I' : Hp} (s : Sub I I') : ∀ {v : V} {d : D}, Rep G I v d → Rep G I' v d
  | _, _, .non => .non
  | _, _, .bl b => .bl b
  | _, _, .int i => .int i
  | _, _, .str x => .str x
  | _, _, .tup h r => .tup (sqT_sub s h) (r.sub s)
  | _, _, .lst h r => .lst (s _ _ h) (r.sub s)
  | _, _, .ins h hc hl r => .ins (s _ _ h) hc hl (r.sub s)
  | _, _, .dK h hk r => .dK (Rd.sub s h) hk (r.sub s)
  | _, _, .dT h hk r => .dT (Rd.sub s h) hk (r.sub s)
  | _, _, .scr => .scr
  | _, _, .drw h => .drw h
theorem RepL.sub {G : Gh} {I I' : Hp} (s : Sub I I') : ∀ {v : List V} {d : List D}, RepL G I v d → RepL G I' v d
  | _, _, .nil => .nil
  | _, _, .cons h t => .cons (h.sub s) (t.sub s)
end
theorem RepL.length {G : Gh} {I : Hp} : ∀ {vs : List V} {ds : List D}, RepL G I vs ds → vs.length = ds.length
  | _, _, .nil => rfl
  | _, _, .cons _ t => congrArg (· + 1) t.length
theorem RepL.get {G : Gh} {I : Hp} : ∀ {vs : List V} {ds : List D} {i : Nat} {d : D}, RepL G I vs ds → ds[i]? = some d → ∃ v, vs[i]? = some v ∧ Rep G I v d
  | _, _, _, _, .nil, e => by simp at e
  | _, _, 0, _, .cons h _, e => by simp at e; subst e; exact ⟨_, rfl, h⟩
  | _, _, i + 1, d, .cons _ t, e => by
    obtain ⟨v, h1, h2⟩ := RepL.get (i := i) (d := d) t (by simpa using e)
    exact ⟨v, by simpa using h1, h2⟩
theorem RepL.getV {G : Gh} {I : Hp} : ∀ {vs : List V} {ds : List D} {i : Nat} {v : V}, RepL G I vs ds → vs[i]? = some v → ∃ d, ds[i]? = some d ∧ Rep G I v d
  | _, _, _, _, .nil, e => by simp at e
  | _, _, 0, _, .cons h _, e => by simp at e; subst e; exact ⟨_, rfl, h⟩
  | _, _, i + 1, v, .cons _ t, e => by
    obtain ⟨d, h1, h2⟩ := RepL.getV (i := i) (v := v) t (by simpa using e)
    exact ⟨d, by simpa using h1, h2⟩
theorem RepL.append {G : Gh} {I : Hp} : ∀ {vs ws : List V} {ds es : List D}, RepL G I vs ds → RepL G I ws es → RepL G I (vs ++ ws) (ds ++ es)
  | _, _, _, _, .nil, s => s
  | _, _, _, _, .cons h t, s => .cons h (t.append s)
theorem RepL.take {G : Gh} {I : Hp} : ∀ {vs : List V} {ds : List D} (n : Nat), RepL G I vs ds → RepL G I (vs.take n) (ds.take n)
  | _, _, 0, _ => .nil
  | _, _, _ + 1, .nil => .nil
  | _, _, n + 1, .cons h t => .cons h (t.take n)
theorem RepL.drop {G : Gh} {I : Hp} : ∀ {vs : List V} {ds : List D} (n : Nat), RepL G I vs ds → RepL G I (vs.drop n) (ds.drop n)
  | _, _, 0, h => h
  | _, _, _ + 1, .nil => .nil
  | _, _, n + 1, .cons _ t => t.drop n

/-- the script: locked, or one of the module's own -/
def ScrOk (K : PySem.W.Frag) (H : Hp) (a : Addr) (ns : List Int) : Prop := (∃ o, H a = some (.frz o (.lst (ns.map .int)))) ∨
  ∃ (o : Obj) (its : Array Value) (n : Nat), K.lookup a = some o ∧ o.cls = .type "list" ∧ o.dict = none ∧ o.data = .seq its n ∧ its.size ≤ sizeLine ∧ Vals (ns.map .int) its.toList
theorem ScrOk.sq {K : PySem.W.Frag} {H : Hp} {a : Addr} {ns : List Int} (h : ScrOk K H a ns) : SqL K H a (ns.map .int) := by
  rcases h with ⟨o, h⟩ | h
  · exact .inl (.inr ⟨o, h⟩)
  · exact .inr h
theorem ScrOk.sub {K : PySem.W.Frag} {H H' : Hp} {a : Addr} {ns : List Int} (h : ScrOk K H a ns) (s : ∀ o, H a = some o → H' a = some o) : ScrOk K H' a ns := by
  rcases h with ⟨o, h⟩ | h
  · exact .inl ⟨o, s _ h⟩
  · exact .inr h
/-- the world: the script stands, the draw's list holds how many were drawn -/
structure WOk (G : Gh) (I H : Hp) (k : Nat) : Prop where
  inH : Sub I H
  scr : ScrOk G.K H G.sa G.ns
  drw : ∀ d, G.da = some d → True ∧ I d = none ∧ H d = some (.lst [.ref G.sa, .int k])
/-- the heap has grown: I the part that never changes. The draw's list alone may change -/
structure Step (G : Gh) (I H I' H' : Hp) (k' : Nat) : Prop where
  w : WOk G I' H' k'
  sub : Sub I I'
  new : ∀ a o, I' a = some o → I a = some o ∨ H a = none
  same : ∀ a o, H a = some o → G.da ≠ some a → H' a = some o
theorem Step.refl {G : Gh} {I H : Hp} {k : Nat} (w : WOk G I H k) : Step G I H I H k := ⟨w, fun _ _ e => e, fun _ _ e => .inl e, fun _ _ e _ => e⟩
theorem Step.trans {G : Gh} {I H I1 H1 I2 H2 : Hp} {k1 k2 : Nat} (a : Step G I H I1 H1 k1) (b : Step G I1 H1 I2 H2 k2) : Step G I H I2 H2 k2 where
  w := b.w
  sub := fun x o e => b.sub x o (a.sub x o e)
  new := fun x o e => by
    rcases b.new x o e with h | h
    · exact a.new x o h
    · by_cases q : G.da = some x
      · have := (b.w.drw x q).2.1
        rw [e] at this; cases this
      · cases e2 : H x with
        | none => exact .inr rfl
        | some u =>
          have := a.same x u e2 q
          rw [h] at this
          cases this
  same := fun x o e q => b.same x o (a.same x o e q) q
/-- a new object is laid, and belongs to what never changes -/
theorem Step.laid {G : Gh} {I H : Hp} {k : Nat} {p : Addr} {o : HO} (w : WOk G I H k) (hp : H p = none) : Step G I H (upd I p o) (upd H p o) k := by
  have hI : I p = none := by
    cases e : I p with
    | none => rfl
    | some u => have := w.inH p u e; rw [hp] at this; cases this
  refine ⟨⟨fun a u e => ?_, ?_, fun d hd => ?_⟩, fun a u e => ?_, fun a u e => ?_, fun a u e _ => ?_⟩
  · by_cases q : a = p
    · subst q; rw [upd_same] at e ⊢; exact e
    · rw [upd_ne q] at e ⊢; exact w.inH a u e
  · exact w.scr.sub fun u e => by rw [upd_ne (ne_of_none e hp)]; exact e
  · obtain ⟨h1, h2, h3⟩ := w.drw d hd
    have ne : d ≠ p := ne_of_none h3 hp
    exact ⟨h1, by rw [upd_ne ne]; exact h2, by rw [upd_ne ne]; exact h3⟩
  · rw [upd_ne (ne_of_none e hI)]; exact e
  · by_cases q : a = p
    · subst q; exact .inr hp
    · rw [upd_ne q] at e; exact .inl e
  · rw [upd_ne (ne_of_none e hp)]; exact e

-- ### a frame's slots 
inductive Slot where
  | no | val (d : D) | own (d : D) | me (c : Cn) (ds : List D)
/-- an object that a name alone holds, and that may change -/
def OwnRep (G : Gh) (I H : Hp) (a : Addr) : D → Prop
  | .lst ds => ∃ vs, H a = some (.lst vs) ∧ RepL G I vs ds
  | .dK ds => ∃ kvs, H a = some (.dK kvs) ∧ kvs.map (·.1) = ds.map (·.1) ∧ RepL G I (kvs.map (·.2)) (ds.map (·.2))
  | .dT ds => ∃ kvs, H a = some (.dT kvs) ∧ kvs.map (·.1) = ds.map (·.1) ∧ RepL G I (kvs.map (·.2)) (ds.map (·.2))
  | _ => False
theorem OwnRep.there {G : Gh} {I H : Hp} {a : Addr} {d : D} (h : OwnRep G I H a d) : ∃ o, H a = some o := by
  cases d <;> first | exact False.elim h | (obtain ⟨_, h, _⟩ := h; exact ⟨_, h⟩)
theorem OwnRep.step {G : Gh} {I H I' H' : Hp} {a : Addr} {d : D} (h : OwnRep G I H a d) (s : Sub I I') (k : ∀ o, H a = some o → H' a = some o) : OwnRep G I' H' a d := by
  cases d <;> first | exact False.elim h | skip
  · obtain ⟨vs, h, r⟩ := h; exact ⟨vs, k _ h, r.sub s⟩
  · obtain ⟨vs, h, hk, r⟩ := h; exact ⟨vs, k _ h, hk, r.sub s⟩
  · obtain ⟨vs, h, hk, r⟩ := h; exact ⟨vs, k _ h, hk, r.sub s⟩

/-- a frame: I0, H0 at its entry, I, H now -/
structure FI (G : Gh) (I0 H0 I H : Hp) (k : Nat) (σ : List (Option V)) (ρ : List Slot) : Prop where
  st : Step G I0 H0 I H k
  len : σ.length = ρ.length
  val : ∀ (i : Nat) (d : D), ρ[i]? = some (.val d) → ∃ v, σ[i]? = some (some v) ∧ Rep G I v d
  own : ∀ (i : Nat) (d : D), ρ[i]? = some (.own d) → ∃ a, σ[i]? = some (some (V.ref a)) ∧ OwnRep G I H a d ∧ I a = none ∧ H0 a = none ∧ G.da ≠ some a
  dis : ∀ (i j : Nat) (d e : D) (a : Addr), ρ[i]? = some (.own d) → ρ[j]? = some (.own e) → σ[i]? = some (some (V.ref a)) → σ[j]? = some (some (V.ref a)) → i = j
  me : ∀ (i : Nat) (c : Cn) (ds : List D), ρ[i]? = some (.me c ds) → ∃ x dx C vs, G.me = some (x, dx, C) ∧ σ[i]? = some (some (V.ref x)) ∧ H x = some (.ins C dx (c.fields.zip vs)) ∧ G.cls c = some C ∧ ds.length ≤ c.fields.length ∧ RepL G I vs ds ∧ I x = none ∧ H0 x = none ∧ G.da ≠ some x
  one : ∀ (i j : Nat) (c e : Cn) (ds es : List D), ρ[i]? = some (.me c ds) → ρ[j]? = some (.me e es) → i = j
theorem FI.w {G : Gh} {I0 H0 I H : Hp} {k : Nat} {σ : List (Option V)} {ρ : List Slot} (F : FI G I0 H0 I H k σ ρ) : WOk G I H k := F.st.w
theorem FI.step {G : Gh} {I0 H0 I H I' H' : Hp} {k k' : Nat} {σ : List (Option V)} {ρ : List Slot} (F : FI G I0 H0 I H k σ ρ) (s : Step G I H I' H' k') : FI G I0 H0 I' H' k' σ ρ where
  st := F.st.trans s
  len := F.len
  val := fun i d e => let ⟨v, h1, h2⟩ := F.val i d e; ⟨v, h1, h2.sub s.sub⟩
  own := fun i d e => by
    obtain ⟨a, h1, h2, h3, h4, h5⟩ := F.own i d e
    refine ⟨a, h1, h2.step s.sub (fun o q => s.same a o q h5), ?_, h4, h5⟩
    cases q : I' a with
    | none => rfl
    | some o =>
      obtain ⟨u, hu⟩ := h2.there
      rcases s.new a o q with z | z
      · rw [h3] at z; cases z
      · rw [hu] at z; cases z
  dis := F.dis
  me := fun i c ds e => by
    obtain ⟨x, dx, C, vs, h1, h2, h3, h4, h5, h6, h7, h8, h9⟩ := F.me i c ds e
    refine ⟨x, dx, C, vs, h1, h2, s.same x _ h3 h9, h4, h5, h6.sub s.sub, ?_, h8, h9⟩
    cases q : I' x with
    | none => rfl
    | some o =>
      rcases s.new x o q with z | z
      · rw [h7] at z; cases z
      · rw [h3] at z; cases z
  one := F.one

-- ### readings by data 
/-- what a piece of a program yields, from how many were drawn: none where it is not told -/
abbrev M (α : Type) := Nat → Option (α × Nat)
namespace M
def pure {α : Type} (a : α) : M α := fun k => some (a, k)
def bind {α β : Type} (x : M α) (f : α → M β) : M β := fun k => match x k with
  | some (a, k') => f a k'
  | none => none
def fail {α : Type} : M α := fun _ => none
def lift {α : Type} (o : Option α) : M α := fun k => match o with
  | some a => some (a, k)
  | none => none
theorem bind_some {α β : Type} {x : M α} {f : α → M β} {k : Nat} {r : β × Nat} (h : M.bind x f k = some r) : ∃ a k', x k = some (a, k') ∧ f a k' = some r := by
  unfold M.bind at h
  cases e : x k with
  | none => rw [e] at h; cases h
  | some p => obtain ⟨a, k'⟩ := p; rw [e] at h; exact ⟨a, k', rfl, h⟩
theorem lift_some {α : Type} {o : Option α} {k k' : Nat} {a : α} (h : M.lift o k = some (a, k')) : o = some a ∧ k' = k := by
  unfold M.lift at h
  cases e : o with
  | none => rw [e] at h; cases h
  | some b => rw [e] at h; simp only [Option.some.injEq, Prod.mk.injEq] at h; exact ⟨by rw [h.1], h.2.symm⟩
end M
abbrev Env := List Slot
abbrev Sem := Env → M D
abbrev SemB := Env → M Bool
abbrev SemL := Env → M (List D)
def tD (G : Gh) (f : Sem) : TE := fun σ H Q => ∃ I0 H0 I k ρ d k', FI G I0 H0 I H k σ ρ ∧ f ρ k = some (d, k') ∧ ∀ I' H' v, Step G I H I' H' k' → Rep G I' v d → Q v H'
def tDB (G : Gh) (f : SemB) : TT := fun σ H Q => ∃ I0 H0 I k ρ b k', FI G I0 H0 I H k σ ρ ∧ f ρ k = some (b, k') ∧ ∀ I' H', Step G I H I' H' k' → Q b H'
def tDL (G : Gh) (f : SemL) : TA := fun σ H Q => ∃ I0 H0 I k ρ ds k', FI G I0 H0 I H k σ ρ ∧ f ρ k = some (ds, k') ∧ ∀ I' H' vs, Step G I H I' H' k' → RepL G I' vs ds → Q vs H'
/-- read for a moment: an object that a name alone holds, too -/
def RepB (G : Gh) (I H : Hp) (v : V) (d : D) : Prop := Rep G I v d ∨ ∃ a, v = .ref a ∧ OwnRep G I H a d ∧ I a = none ∧ G.da ≠ some a
def tDR (G : Gh) (f : Sem) : TE := fun σ H Q => ∃ I0 H0 I k ρ d k', FI G I0 H0 I H k σ ρ ∧ f ρ k = some (d, k') ∧ ∀ I' H' v, Step G I H I' H' k' → RepB G I' H' v d → Q v H'
theorem RepB.step {G : Gh} {I H I' H' : Hp} {k' : Nat} {v : V} {d : D} (h : RepB G I H v d) (s : Step G I H I' H' k') : RepB G I' H' v d := by
  rcases h with h | ⟨a, e, h, n, q⟩
  · exact .inl (h.sub s.sub)
  · refine .inr ⟨a, e, h.step s.sub (fun o z => s.same a o z q), ?_, q⟩
    cases z : I' a with
    | none => rfl
    | some o =>
      obtain ⟨u, hu⟩ := h.there
      rcases s.new a o z with y | y
      · rw [n] at y; cases y
      · rw [hu] at y; cases y

theorem _root_.L2.PE.mono {X : Cx} {e : Expr} {t t' : TE} (h : PE X e t) (w : ∀ σ H Q, t' σ H Q → t σ H Q) : PE X e t' := ⟨fun pins s σ H Q I q => h.run pins s σ H Q I (w σ H Q q)⟩
theorem _root_.L2.PT.mono {X : Cx} {e : Expr} {t t' : TT} (h : PT X e t) (w : ∀ σ H Q, t' σ H Q → t σ H Q) : PT X e t' := ⟨fun pins s σ H Q I q => h.run pins s σ H Q I (w σ H Q q)⟩
theorem _root_.L2.PW.mono {X : Cx} {e : Expr} {t t' : TT} (h : PW X e t) (w : ∀ σ H Q, t' σ H Q → t σ H Q) : PW X e t' := ⟨fun wh pins s σ H Q I q => h.run wh pins s σ H Q I (w σ H Q q)⟩
theorem _root_.L2.PA.mono {X : Cx} {e : List Expr} {t t' : TA} (h : PA X e t) (w : ∀ σ H Q, t' σ H Q → t σ H Q) : PA X e t' := ⟨fun pos pins s σ H Q I q => h.run pos pins s σ H Q I (w σ H Q q)⟩
theorem _root_.L2.PS.mono {X : Cx} {e : Stmt} {t t' : TS} (h : PS X e t) (w : ∀ D σ H, t' D σ H → t D σ H) : PS X e t' := ⟨fun pins s σ H D I q => h.run pins s σ H D I (w D σ H q)⟩
theorem _root_.L2.PSs.mono {X : Cx} {e : List Stmt} {t t' : TS} (h : PSs X e t) (w : ∀ D σ H, t' D σ H → t D σ H) : PSs X e t' := ⟨fun pins s σ H D I q => h.run pins s σ H D I (w D σ H q)⟩

abbrev DE (G : Gh) (X : Cx) (e : Expr) (f : Sem) : Prop := PE X e (tD G f)
abbrev DR (G : Gh) (X : Cx) (e : Expr) (f : Sem) : Prop := PE X e (tDR G f)
abbrev DT (G : Gh) (X : Cx) (e : Expr) (f : SemB) : Prop := PT X e (tDB G f)
abbrev DA (G : Gh) (X : Cx) (es : List Expr) (f : SemL) : Prop := PA X es (tDL G f)
theorem DE.toR {G : Gh} {X : Cx} {e : Expr} {f : Sem} (h : DE G X e f) : DR G X e f := PE.mono h fun σ H Q ⟨I0, H0, I, k, ρ, d, k', F, e, q⟩ => ⟨I0, H0, I, k, ρ, d, k', F, e, fun I' H' v s r => q I' H' v s (.inl r)⟩
end Sky

end
section
-- SkyB: expressions by data. 
namespace Sky
open PySem PySem.Spec PyProof.Rows L2

-- ### names, constants 
def dV (i : Nat) : Sem := fun ρ k => match ρ[i]? with
  | some (.val d) => some (d, k)
  | _ => none
def dVR (i : Nat) : Sem := fun ρ k => match ρ[i]? with
  | some (.val d) => some (d, k)
  | some (.own d) => some (d, k)
  | _ => none
def dC (d : D) : Sem := fun _ k => some (d, k)
section
variable {G : Gh} {X : Cx}
theorem de_var {i : Nat} {x : Str} {pos : Pos} (h : PE X (.Name x pos) (tVar i)) : DE G X (.Name x pos) (dV i) := PE.mono h fun σ H Q hq => by
  obtain ⟨I0, H0, I, k, ρ, d, k', F, e, q⟩ := hq
  unfold dV at e
  split at e
  · rename_i d' hd
    cases e
    obtain ⟨v, h1, h2⟩ := F.val i _ hd
    exact ⟨v, h1, q I H v (Step.refl F.w) h2⟩
  · cases e
theorem dr_var {i : Nat} {x : Str} {pos : Pos} (h : PE X (.Name x pos) (tVar i)) : DR G X (.Name x pos) (dVR i) := PE.mono h fun σ H Q hq => by
  obtain ⟨I0, H0, I, k, ρ, d, k', F, e, q⟩ := hq
  unfold dVR at e
  split at e
  · rename_i d' hd
    cases e
    obtain ⟨v, h1, h2⟩ := F.val i _ hd
    exact ⟨v, h1, q I H v (Step.refl F.w) (.inl h2)⟩
  · rename_i d' hd
    cases e
    obtain ⟨a, h1, h2, h3, h4, h5⟩ := F.own i _ hd
    exact ⟨_, h1, q I H _ (Step.refl F.w) (.inr ⟨a, rfl, h2, h3, h5⟩)⟩
  · cases e
theorem de_const {e : Expr} {v : V} {d : D} (h : PE X e (tC v)) (hr : ∀ I, Rep G I v d) : DE G X e (dC d) := PE.mono h fun σ H Q hq => by
  obtain ⟨I0, H0, I, k, ρ, d', k', F, e, q⟩ := hq
  cases e
  exact q I H v (Step.refl F.w) (hr I)
end

-- ### what a borrowed value is 
section
variable {G : Gh} {I H : Hp} {v : V}
theorem RepB.int {i : Int} (h : RepB G I H v (.int i)) : v = .int i := by
  rcases h with h | ⟨_, _, h, _⟩
  · cases h; rfl
  · exact False.elim h
theorem RepB.bl {b : Bool} (h : RepB G I H v (.bl b)) : v = .bl b := by
  rcases h with h | ⟨_, _, h, _⟩
  · cases h; rfl
  · exact False.elim h
theorem RepB.str {x : Str} (h : RepB G I H v (.str x)) : v = .str x := by
  rcases h with h | ⟨_, _, h, _⟩
  · cases h; rfl
  · exact False.elim h
theorem RepB.non (h : RepB G I H v .non) : v = .non := by
  rcases h with h | ⟨_, _, h, _⟩
  · cases h; rfl
  · exact False.elim h
theorem RepB.tup {ds : List D} (w : Sub I H) (h : RepB G I H v (.tup ds)) : ∃ a vs, v = .ref a ∧ SqT G.K H a vs ∧ RepL G I vs ds := by
  rcases h with h | ⟨_, _, h, _⟩
  · cases h with
    | tup h r => exact ⟨_, _, rfl, sqT_sub w h, r⟩
  · exact False.elim h
theorem RepB.lst {ds : List D} (w : Sub I H) (h : RepB G I H v (.lst ds)) : ∃ a vs, v = .ref a ∧ H a = some (.lst vs) ∧ RepL G I vs ds := by
  rcases h with h | ⟨a, e, ⟨vs, h, r⟩, _⟩
  · cases h with
    | lst h r => exact ⟨_, _, rfl, w _ _ h, r⟩
  · exact ⟨a, vs, e, h, r⟩
end
theorem RepL.nil_iff {G : Gh} {I : Hp} {vs : List V} {ds : List D} (h : RepL G I vs ds) : vs = [] ↔ ds = [] := by
  cases h with
  | nil => simp
  | cons _ _ => simp

-- ### operators on two data 
def lim (n : Nat) : Bool := Nat.ble n 1000000
theorem lim_ok {n : Nat} (h : lim n = true) : n ≤ sizeLine := by
  have := Nat.le_of_ble_eq_true h
  rw [sizeLine_eq]; omega
theorem lim_lt {n : Nat} (h : lim n = true) : n < sizeLine := by
  have := Nat.le_of_ble_eq_true h
  rw [sizeLine_eq]; omega
def mulOk (i j : Int) : Bool := Nat.blt i.natAbs 18446744073709551616 || (Nat.blt j.natAbs 18446744073709551616 || Nat.blt (i.natAbs.log2 + j.natAbs.log2) 1000000)
theorem mulOk_ok {i j : Int} (h : mulOk i j = true) : IntMulOk i j := by
  unfold mulOk at h
  rcases Bool.or_eq_true_iff.mp h with h | h
  · have := Nat.le_of_ble_eq_true h
    exact .of_left (intBits_le_64 (by omega) (by omega))
  · rcases Bool.or_eq_true_iff.mp h with h | h
    · have := Nat.le_of_ble_eq_true h
      exact .of_right (intBits_le_64 (by omega) (by omega))
    · exact CMulW.ok (Nat.le_of_ble_eq_true h)
theorem op_mulX {X : Cx} : OpR X (binaryOp .Mult) (rI IntMulOk fun i j => .int (i * j)) := opI fun _ _ _ _ _ _ _ hc q => mul_int q hc
def divOk (j : Int) : Bool := decide (0 < j) && Nat.blt j.natAbs.log2 9000
def D.add : D → D → Option D
  | .int i, .int j => some (.int (i + j))
  | .str x, .str y => if lim (x.length + y.length) then some (.str (x ++ y)) else none
  | .tup xs, .tup ys => if lim (xs.length + ys.length) then some (.tup (xs ++ ys)) else none
  | .lst xs, .lst ys => if lim (xs.length + ys.length) then some (.lst (xs ++ ys)) else none
  | _, _ => none
def D.sub : D → D → Option D
  | .int i, .int j => some (.int (i - j))
  | _, _ => none
def D.mul : D → D → Option D
  | .int i, .int j => if mulOk i j then some (.int (i * j)) else none
  | _, _ => none
def D.fdiv : D → D → Option D
  | .int i, .int j => if divOk j then some (.int (i / j)) else none
  | _, _ => none
def D.mod : D → D → Option D
  | .int i, .int j => if 0 < j then some (.int (i % j)) else none
  | _, _ => none
/-- a rule by values serves a function of data -/
def RD2 (G : Gh) (r : R2) (g : D → D → Option D) : Prop :=
  ∀ (I H : Hp) (k : Nat) (x y : V) (d e z : D) (Q : VK), WOk G I H k → RepB G I H x d → RepB G I H y e → g d e = some z → (∀ I' H' v, Step G I H I' H' k → Rep G I' v z → Q v H') → r x y H Q
section
variable {G : Gh}
theorem rd_sub : RD2 G (rI0 fun i j => .int (i - j)) D.sub := by
  intro I H k x y d e z Q w hx hy hz q
  cases d <;> cases e <;> simp only [D.sub] at hz <;> cases hz
  cases hx.int; cases hy.int
  exact ⟨_, _, rfl, rfl, q I H _ (Step.refl w) (.int _)⟩
theorem rd_mul : RD2 G (rI IntMulOk fun i j => .int (i * j)) D.mul := by
  intro I H k x y d e z Q w hx hy hz q
  cases d <;> cases e <;> simp only [D.mul] at hz <;> try cases hz
  rename_i i j
  cases hx.int; cases hy.int
  by_cases c : mulOk i j = true
  · rw [if_pos c] at hz
    cases hz
    exact ⟨_, _, rfl, rfl, mulOk_ok c, q I H _ (Step.refl w) (.int _)⟩
  · rw [if_neg c] at hz; cases hz
theorem rd_fdiv : RD2 G (rI CDivW fun i j => .int (i / j)) D.fdiv := by
  intro I H k x y d e z Q w hx hy hz q
  cases d <;> cases e <;> simp only [D.fdiv] at hz <;> try cases hz
  rename_i i j
  cases hx.int; cases hy.int
  by_cases c : divOk j = true
  · rw [if_pos c] at hz
    cases hz
    have c' := Bool.and_eq_true_iff.mp c
    exact ⟨_, _, rfl, rfl, ⟨of_decide_eq_true c'.1, Nat.le_of_ble_eq_true c'.2⟩, q I H _ (Step.refl w) (.int _)⟩
  · rw [if_neg c] at hz; cases hz
theorem rd_mod : RD2 G (rI (fun _ j => 0 < j) fun i j => .int (i % j)) D.mod := by
  intro I H k x y d e z Q w hx hy hz q
  cases d <;> cases e <;> simp only [D.mod] at hz <;> try cases hz
  rename_i i j
  cases hx.int; cases hy.int
  by_cases c : 0 < j
  · rw [if_pos c] at hz
    cases hz
    exact ⟨_, _, rfl, rfl, c, q I H _ (Step.refl w) (.int _)⟩
  · rw [if_neg c] at hz; cases hz
/-- a new list, a new tuple, of what never changes -/
theorem new_lst {I H : Hp} {k : Nat} {p : Addr} {vs : List V} {ds : List D} (w : WOk G I H k) (hp : H p = none) (r : RepL G I vs ds) :
    Step G I H (upd I p (.lst vs)) (upd H p (.lst vs)) k ∧ Rep G (upd I p (.lst vs)) (.ref p) (.lst ds) :=
  have s := Step.laid (o := .lst vs) w hp
  ⟨s, .lst upd_same (r.sub s.sub)⟩
theorem new_tup {I H : Hp} {k : Nat} {p : Addr} {vs : List V} {ds : List D} (w : WOk G I H k) (hp : H p = none) (r : RepL G I vs ds) :
    Step G I H (upd I p (.tup vs)) (upd H p (.tup vs)) k ∧ Rep G (upd I p (.tup vs)) (.ref p) (.tup ds) :=
  have s := Step.laid (o := .tup vs) w hp
  ⟨s, .tup (.inl (.inl upd_same)) (r.sub s.sub)⟩
def rAddD (K : PySem.W.Frag) : R2 := fun x y H Q => (rI0 (fun i j => .int (i + j)) x y H Q ∨ ∃ i j, x = .str i ∧ y = .str j ∧ i.length + j.length ≤ sizeLine ∧ Q (.str (i ++ j)) H) ∨ (rCatA K x y H Q ∨ rCat x y H Q)
theorem op_addD {X : Cx} : OpR X (binaryOp .Add) (rAddD X.K) := (op_add.or op_add_str).or (op_catA.or op_cat)
theorem rd_add : RD2 G (rAddD G.K) D.add := by
  intro I H k x y d e z Q w hx hy hz q
  cases d <;> cases e <;> simp only [D.add] at hz <;> try cases hz
  · cases hx.int; cases hy.int
    exact .inl (.inl ⟨_, _, rfl, rfl, q I H _ (Step.refl w) (.int _)⟩)
  · rename_i i j
    cases hx.str; cases hy.str
    by_cases c : lim (i.length + j.length) = true
    · rw [if_pos c] at hz; cases hz
      exact .inl (.inr ⟨_, _, rfl, rfl, lim_ok c, q I H _ (Step.refl w) (.str _)⟩)
    · rw [if_neg c] at hz; cases hz
  · rename_i xs ys
    obtain ⟨a, vs, rfl, h1, r1⟩ := hx.tup w.inH
    obtain ⟨b, ws, rfl, h2, r2⟩ := hy.tup w.inH
    by_cases c : lim (xs.length + ys.length) = true
    · rw [if_pos c] at hz; cases hz
      have hxr : Rep G I (.ref a) (.tup xs) := by
        rcases hx with h | ⟨_, _, h, _⟩
        · exact h
        · exact False.elim h
      have hyr : Rep G I (.ref b) (.tup ys) := by
        rcases hy with h | ⟨_, _, h, _⟩
        · exact h
        · exact False.elim h
      refine .inr (.inl ⟨a, b, vs, ws, rfl, rfl, h1, h2, by rw [r1.length, r2.length]; exact lim_ok c, fun e => ?_, fun _ e => ?_, fun _ _ p hp => ?_⟩)
      · have e' := r1.nil_iff.mp e
        subst e'
        exact q I H _ (Step.refl w) hyr
      · have e' := r2.nil_iff.mp e
        subst e'
        rw [List.append_nil] at q
        exact q I H _ (Step.refl w) hxr
      · obtain ⟨s, rp⟩ := new_tup w hp (r1.append r2)
        exact q _ _ _ s rp
    · rw [if_neg c] at hz; cases hz
  · rename_i xs ys
    obtain ⟨a, vs, rfl, h1, r1⟩ := hx.lst w.inH
    obtain ⟨b, ws, rfl, h2, r2⟩ := hy.lst w.inH
    by_cases c : lim (xs.length + ys.length) = true
    · rw [if_pos c] at hz; cases hz
      refine .inr (.inr ⟨a, b, vs, ws, rfl, rfl, h1, h2, by rw [r1.length, r2.length]; exact lim_ok c, fun p hp => ?_⟩)
      obtain ⟨s, rp⟩ := new_lst w hp (r1.append r2)
      exact q _ _ _ s rp
    · rw [if_neg c] at hz; cases hz

/-- two expressions, then a function of data -/
def dBin (g : D → D → Option D) (f1 f2 : Sem) : Sem := fun ρ => M.bind (f1 ρ) fun x => M.bind (f2 ρ) fun y => M.lift (g x y)
theorem td_op {r : R2} {g : D → D → Option D} (hr : RD2 G r g) {f1 f2 : Sem} {σ : List (Option V)} {H : Hp} {Q : VK} (hq : tD G (dBin g f1 f2) σ H Q) : tOp r (tDR G f1) (tDR G f2) σ H Q := by
  obtain ⟨I0, H0, I, k, ρ, d, k', F, e, q⟩ := hq
  obtain ⟨x, k1, e1, e⟩ := M.bind_some e
  obtain ⟨y, k2, e2, e⟩ := M.bind_some e
  obtain ⟨e3, rfl⟩ := M.lift_some e
  exact ⟨I0, H0, I, k, ρ, x, k1, F, e1, fun I1 H1 v s1 r1 => ⟨I0, H0, I1, k1, ρ, y, _, F.step s1, e2, fun I2 H2 u s2 r2 =>
    hr I2 H2 _ v u x y d Q s2.w (r1.step s2) r2 e3 fun I3 H3 z s3 r3 => q I3 H3 z ((s1.trans s2).trans s3) r3⟩⟩
theorem de_op {X : Cx} {op : Operator} {r : R2} {g : D → D → Option D} {a b : Expr} {pos : Pos} {f1 f2 : Sem} (ho : OpR X (binaryOp op) r) (hr : RD2 G r g) (ha : DR G X a f1) (hb : DR G X b f2) : DE G X (.BinOp a op b pos) (dBin g f1 f2) :=
  PE.mono (pe_op ho ha hb) fun _ _ _ h => td_op hr h
/-- a comparison, as a value; as a test -/
def dBinB (g : D → D → Option Bool) (f1 f2 : Sem) : SemB := fun ρ => M.bind (f1 ρ) fun x => M.bind (f2 ρ) fun y => M.lift (g x y)
def RDB (G : Gh) (r : R2) (g : D → D → Option Bool) : Prop := RD2 G r fun x y => (g x y).map D.bl
theorem dc_val {X : Cx} {op : CmpOp} {r : R2} {g : D → D → Option Bool} {a b : Expr} {pos : Pos} {f1 f2 : Sem} (ho : OpR X (compareOp op) r) (hr : RDB G r g) (ha : DR G X a f1) (hb : DR G X b f2) (hm : behindInMarks op b = false) :
    DE G X (.Compare a [op] [b] pos) (dBin (fun x y => (g x y).map D.bl) f1 f2) := PE.mono (pe_cmpR ho ha hb hm) fun _ _ _ h => td_op hr h
theorem dc_test {X : Cx} {op : CmpOp} {r : R2} {g : D → D → Option Bool} {a b : Expr} {pos : Pos} {f1 f2 : Sem} (ho : OpR X (compareOp op) r) (hr : RDB G r g) (ha : DR G X a f1) (hb : DR G X b f2) (hm : behindInMarks op b = false) :
    DT G X (.Compare a [op] [b] pos) (dBinB g f1 f2) := PT.mono (pt_cmpR ho ha hb hm) fun σ H Q hq => by
  obtain ⟨I0, H0, I, k, ρ, d, k', F, e, q⟩ := hq
  refine td_op hr (Q := fun x H' => ∃ k, x = .bl k ∧ Q k H') ⟨I0, H0, I, k, ρ, .bl d, k', F, ?_, fun I' H' v s r => ?_⟩
  · obtain ⟨x, k1, e1, e⟩ := M.bind_some e
    obtain ⟨y, k2, e2, e⟩ := M.bind_some e
    obtain ⟨e3, rfl⟩ := M.lift_some e
    simp only [dBin, M.bind, e1, e2, e3, M.lift, Option.map]
  · cases r
    exact ⟨d, rfl, q I' H' s⟩
end
end Sky

end
section
-- SkyC: tests, chains, displays, places, fields, by data. 
namespace Sky
open PySem PySem.Spec PyProof.Rows L2

-- ### truth 
def D.tru : D → Option Bool
  | .non => some false
  | .bl b => some b
  | .int i => some (i != 0)
  | .str x => if lim x.length then some ((x.length : Int) != 0) else none
  | .tup xs => some (!xs.isEmpty)
  | .lst xs => some (!xs.isEmpty)
  | _ => none
theorem isEmpty_rep {G : Gh} {I : Hp} {vs : List V} {ds : List D} (h : RepL G I vs ds) : vs.isEmpty = ds.isEmpty := by
  cases h <;> rfl
theorem tru_rep {G : Gh} {I H : Hp} {v : V} {d : D} {b : Bool} (w : Sub I H) (h : RepB G I H v d) (e : d.tru = some b) : TruV G.K v H b := by
  cases d <;> simp only [D.tru] at e <;> try cases e
  · cases h.non; rfl
  · cases h.bl; rfl
  · cases h.int; rfl
  · rename_i x
    cases h.str
    by_cases c : lim x.length = true
    · rw [if_pos c] at e; cases e; exact ⟨lim_ok c, rfl⟩
    · rw [if_neg c] at e; cases e
  · obtain ⟨a, vs, rfl, h1, r⟩ := h.tup w
    exact .inr (.inl ⟨vs, h1, by rw [isEmpty_rep r]⟩)
  · obtain ⟨a, vs, rfl, h1, r⟩ := h.lst w
    exact .inl ⟨vs, SqL.of h1, by rw [isEmpty_rep r]⟩

def dTru (f : Sem) : SemB := fun ρ => M.bind (f ρ) fun x => M.lift x.tru
def dNotB (f : SemB) : SemB := fun ρ => M.bind (f ρ) fun b => M.pure (!b)
def dAndB (f g : SemB) : SemB := fun ρ => M.bind (f ρ) fun b => match b with | true => g ρ | false => M.pure false
def dOrB (f g : SemB) : SemB := fun ρ => M.bind (f ρ) fun b => match b with | true => M.pure true | false => g ρ
def dIf (c : SemB) (f g : Sem) : Sem := fun ρ => M.bind (c ρ) fun b => match b with | true => f ρ | false => g ρ
/-- and, or, not as values, by truth -/
def dAndV (f g : Sem) : Sem := fun ρ => M.bind (f ρ) fun x => M.bind (M.lift x.tru) fun b => match b with | true => g ρ | false => M.pure x
def dOrV (f g : Sem) : Sem := fun ρ => M.bind (f ρ) fun x => M.bind (M.lift x.tru) fun b => match b with | true => M.pure x | false => g ρ
def dNotV (f : Sem) : Sem := fun ρ => M.bind (f ρ) fun x => M.bind (M.lift x.tru) fun b => M.pure (.bl (!b))
theorem M.pure_some {α : Type} {a b : α} {k k' : Nat} (h : M.pure a k = some (b, k')) : b = a ∧ k' = k := by
  unfold M.pure at h; simp only [Option.some.injEq, Prod.mk.injEq] at h; exact ⟨h.1.symm, h.2.symm⟩
section
variable {G : Gh} {X : Cx} {a b c : Expr} {rest : List Expr} {pos : Pos}
theorem dt_tru {f : Sem} (hK : X.K = G.K) (ha : DR G X a f) (he : ∀ whole, isTrue a X.env whole = (do let v ← whole; standAt a.pos; holding [v] (truthy v))) : DT G X a (dTru f) := PT.mono (pt_truth ha he) fun σ H Q hq => by
  obtain ⟨I0, H0, I, k, ρ, d, k', F, e, q⟩ := hq
  obtain ⟨x, k1, e1, e⟩ := M.bind_some e
  obtain ⟨e3, rfl⟩ := M.lift_some e
  exact ⟨I0, H0, I, k, ρ, x, _, F, e1, fun I1 H1 v s1 r1 => ⟨d, by rw [hK]; exact tru_rep s1.w.inH r1 e3, q I1 H1 s1⟩⟩
theorem dt_not {f : SemB} (ha : DT G X a f) : DT G X (.UnaryOp .Not a pos) (dNotB f) := PT.mono (pt_not ha) fun σ H Q hq => by
  obtain ⟨I0, H0, I, k, ρ, d, k', F, e, q⟩ := hq
  obtain ⟨x, k1, e1, e⟩ := M.bind_some e
  obtain ⟨rfl, rfl⟩ := M.pure_some e
  exact ⟨I0, H0, I, k, ρ, x, _, F, e1, fun I1 H1 s1 => q I1 H1 s1⟩
abbrev DW (G : Gh) (X : Cx) (e : Expr) (f : SemB) : Prop := PW X e (tDB G f)
theorem td_and {f g : SemB} {σ : List (Option V)} {H : Hp} {Q : Bool → Hp → Prop} (hq : tDB G (dAndB f g) σ H Q) : tAnd (tDB G f) (tDB G g) σ H Q := by
  obtain ⟨I0, H0, I, k, ρ, d, k', F, e, q⟩ := hq
  obtain ⟨x, k1, e1, e⟩ := M.bind_some e
  refine ⟨I0, H0, I, k, ρ, x, k1, F, e1, fun I1 H1 s1 => ?_⟩
  cases x with
  | true => exact iteT ⟨I0, H0, I1, k1, ρ, d, k', F.step s1, e, fun I2 H2 s2 => q I2 H2 (s1.trans s2)⟩
  | false =>
    obtain ⟨rfl, rfl⟩ := M.pure_some e
    exact iteF (q I1 H1 s1)
theorem td_or {f g : SemB} {σ : List (Option V)} {H : Hp} {Q : Bool → Hp → Prop} (hq : tDB G (dOrB f g) σ H Q) : tOr (tDB G f) (tDB G g) σ H Q := by
  obtain ⟨I0, H0, I, k, ρ, d, k', F, e, q⟩ := hq
  obtain ⟨x, k1, e1, e⟩ := M.bind_some e
  refine ⟨I0, H0, I, k, ρ, x, k1, F, e1, fun I1 H1 s1 => ?_⟩
  cases x with
  | false => exact iteF ⟨I0, H0, I1, k1, ρ, d, k', F.step s1, e, fun I2 H2 s2 => q I2 H2 (s1.trans s2)⟩
  | true =>
    obtain ⟨rfl, rfl⟩ := M.pure_some e
    exact iteT (q I1 H1 s1)
theorem dw_and1 {f : SemB} (ha : DT G X a f) : DW G X (.BoolOp .And [a] pos) f := pw_and1 ha
theorem dw_or1 {f : SemB} (ha : DT G X a f) : DW G X (.BoolOp .Or [a] pos) f := pw_or1 ha
theorem dw_and {f g : SemB} (ha : DT G X a f) (hb : DW G X (.BoolOp .And (b :: rest) pos) g) : DW G X (.BoolOp .And (a :: b :: rest) pos) (dAndB f g) := PW.mono (pw_and ha hb) fun _ _ _ h => td_and h
theorem dw_or {f g : SemB} (ha : DT G X a f) (hb : DW G X (.BoolOp .Or (b :: rest) pos) g) : DW G X (.BoolOp .Or (a :: b :: rest) pos) (dOrB f g) := PW.mono (pw_or ha hb) fun _ _ _ h => td_or h
theorem de_if {c : Expr} {t : SemB} {f g : Sem} (hc : DT G X c t) (ha : DE G X a f) (hb : DE G X b g) : DE G X (.IfExp c a b pos) (dIf t f g) := PE.mono (pe_ifExp hc ha hb) fun σ H Q hq => by
  obtain ⟨I0, H0, I, k, ρ, d, k', F, e, q⟩ := hq
  obtain ⟨x, k1, e1, e⟩ := M.bind_some e
  refine ⟨I0, H0, I, k, ρ, x, k1, F, e1, fun I1 H1 s1 => ?_⟩
  cases x with
  | true => exact iteT ⟨I0, H0, I1, k1, ρ, d, k', F.step s1, e, fun I2 H2 v s2 r => q I2 H2 v (s1.trans s2) r⟩
  | false => exact iteF ⟨I0, H0, I1, k1, ρ, d, k', F.step s1, e, fun I2 H2 v s2 r => q I2 H2 v (s1.trans s2) r⟩
theorem de_one {op} {f : Sem} (ha : DE G X a f) : DE G X (.BoolOp op [a] pos) f := pe_one ha
theorem de_and {f g : Sem} (hK : X.K = G.K) (ha : DE G X a f) (hb : DE G X (.BoolOp .And (b :: rest) pos) g) : DE G X (.BoolOp .And (a :: b :: rest) pos) (dAndV f g) := PE.mono (pe_andT ha hb) fun σ H Q hq => by
  obtain ⟨I0, H0, I, k, ρ, d, k', F, e, q⟩ := hq
  obtain ⟨x, k1, e1, e⟩ := M.bind_some e
  obtain ⟨y, k2, e2, e⟩ := M.bind_some e
  obtain ⟨e3, rfl⟩ := M.lift_some e2
  refine ⟨I0, H0, I, k, ρ, x, _, F, e1, fun I1 H1 v s1 r1 => ⟨y, by rw [hK]; exact tru_rep s1.w.inH (.inl r1) e3, ?_⟩⟩
  cases y with
  | true => exact iteT ⟨I0, H0, I1, _, ρ, d, k', F.step s1, e, fun I2 H2 v s2 r => q I2 H2 v (s1.trans s2) r⟩
  | false =>
    obtain ⟨rfl, rfl⟩ := M.pure_some e
    exact iteF (q I1 H1 v s1 r1)
theorem de_or {f g : Sem} (hK : X.K = G.K) (ha : DE G X a f) (hb : DE G X (.BoolOp .Or (b :: rest) pos) g) : DE G X (.BoolOp .Or (a :: b :: rest) pos) (dOrV f g) := PE.mono (pe_orT ha hb) fun σ H Q hq => by
  obtain ⟨I0, H0, I, k, ρ, d, k', F, e, q⟩ := hq
  obtain ⟨x, k1, e1, e⟩ := M.bind_some e
  obtain ⟨y, k2, e2, e⟩ := M.bind_some e
  obtain ⟨e3, rfl⟩ := M.lift_some e2
  refine ⟨I0, H0, I, k, ρ, x, _, F, e1, fun I1 H1 v s1 r1 => ⟨y, by rw [hK]; exact tru_rep s1.w.inH (.inl r1) e3, ?_⟩⟩
  cases y with
  | false => exact iteF ⟨I0, H0, I1, _, ρ, d, k', F.step s1, e, fun I2 H2 v s2 r => q I2 H2 v (s1.trans s2) r⟩
  | true =>
    obtain ⟨rfl, rfl⟩ := M.pure_some e
    exact iteT (q I1 H1 v s1 r1)
theorem de_not {f : Sem} (hK : X.K = G.K) (ha : DR G X a f) : DE G X (.UnaryOp .Not a pos) (dNotV f) := PE.mono (pe_notT ha) fun σ H Q hq => by
  obtain ⟨I0, H0, I, k, ρ, d, k', F, e, q⟩ := hq
  obtain ⟨x, k1, e1, e⟩ := M.bind_some e
  obtain ⟨y, k2, e2, e5⟩ := M.bind_some e
  obtain ⟨rfl, rfl⟩ := M.pure_some e5
  obtain ⟨e3, rfl⟩ := M.lift_some e2
  exact ⟨I0, H0, I, k, ρ, x, _, F, e1, fun I1 H1 v s1 r1 => ⟨y, by rw [hK]; exact tru_rep s1.w.inH r1 e3, q I1 H1 _ s1 (.bl _)⟩⟩
/-- -a -/
def D.neg : D → Option D
  | .int i => some (.int (-i))
  | _ => none
def dUn (g : D → Option D) (f : Sem) : Sem := fun ρ => M.bind (f ρ) fun x => M.lift (g x)
theorem de_neg {f : Sem} (ha : DE G X a f) : DE G X (.UnaryOp .USub a pos) (dUn D.neg f) := PE.mono (pe_un un_neg ha) fun σ H Q hq => by
  obtain ⟨I0, H0, I, k, ρ, d, k', F, e, q⟩ := hq
  obtain ⟨x, k1, e1, e⟩ := M.bind_some e
  obtain ⟨e3, rfl⟩ := M.lift_some e
  refine ⟨I0, H0, I, k, ρ, x, _, F, e1, fun I1 H1 v s1 r1 => ?_⟩
  cases x <;> simp only [D.neg] at e3 <;> cases e3
  cases r1
  exact ⟨_, rfl, q I1 H1 _ s1 (.int _)⟩

-- ### a op b op c 
def dChain (g g' : D → D → Option Bool) (f1 f2 f3 : Sem) : SemB := fun ρ => M.bind (f1 ρ) fun x => M.bind (f2 ρ) fun y => M.bind (M.lift (g x y)) fun b => match b with
  | true => M.bind (f3 ρ) fun z => M.lift (g' y z)
  | false => M.pure false
theorem td_chain {r r' : R2} {g g' : D → D → Option Bool} (hr : RDB G r g) (hr' : RDB G r' g') {f1 f2 f3 : Sem} {σ : List (Option V)} {H : Hp} {Q : Bool → Hp → Prop} (hq : tDB G (dChain g g' f1 f2 f3) σ H Q) :
    tChain r r' (tDR G f1) (tDR G f2) (tDR G f3) σ H fun x H' => ∃ k, x = .bl k ∧ Q k H' := by
  obtain ⟨I0, H0, I, k, ρ, d, k', F, e, q⟩ := hq
  obtain ⟨x, k1, e1, e⟩ := M.bind_some e
  obtain ⟨y, k2, e2, e⟩ := M.bind_some e
  obtain ⟨b, k3, e3, e⟩ := M.bind_some e
  obtain ⟨e4, rfl⟩ := M.lift_some e3
  refine ⟨I0, H0, I, k, ρ, x, k1, F, e1, fun I1 H1 v s1 r1 => ⟨I0, H0, I1, k1, ρ, y, _, F.step s1, e2, fun I2 H2 u s2 r2 => ?_⟩⟩
  refine hr I2 H2 _ v u x y (.bl b) _ s2.w (r1.step s2) r2 (by show (g x y).map D.bl = _; rw [e4]; rfl) fun I3 H3 z s3 r3 => ?_
  cases r3
  refine ⟨b, rfl, ?_⟩
  cases b with
  | false =>
    obtain ⟨rfl, rfl⟩ := M.pure_some e
    exact iteF ⟨_, rfl, q I3 H3 ((s1.trans s2).trans s3)⟩
  | true =>
    obtain ⟨z, k4, e5, e⟩ := M.bind_some e
    obtain ⟨e6, rfl⟩ := M.lift_some e
    refine iteT ⟨I0, H0, I3, _, ρ, z, _, (F.step s1).step (s2.trans s3), e5, fun I4 H4 w s4 r4 => ?_⟩
    refine hr' I4 H4 _ u w y z (.bl d) _ s4.w ((r2.step s3).step s4) r4 (by show (g' y z).map D.bl = _; rw [e6]; rfl) fun I5 H5 z5 s5 r5 => ?_
    cases r5
    exact ⟨_, rfl, q I5 H5 ((((s1.trans s2).trans s3).trans s4).trans s5)⟩
theorem dt_chain {op op' : CmpOp} {r r' : R2} {g g' : D → D → Option Bool} {f1 f2 f3 : Sem} (ho : OpR X (compareOp op) r) (ho' : OpR X (compareOp op') r') (hr : RDB G r g) (hr' : RDB G r' g') (ha : DR G X a f1) (hb : DR G X b f2) (hc : DR G X c f3)
    (hm : lastMarks [op, op'] [b, c] = false) : DT G X (.Compare a [op, op'] [b, c] pos) (dChain g g' f1 f2 f3) := PT.mono (pt_chain ho ho' ha hb hc hm) fun _ _ _ h => td_chain hr hr' h
/-- a test's outcome, as a value -/
def dVal (t : SemB) : Sem := fun ρ => M.bind (t ρ) fun b => M.pure (.bl b)
theorem td_val {t : SemB} {σ : List (Option V)} {H : Hp} {Q : VK} (hq : tD G (dVal t) σ H Q) : tDB G t σ H fun b H' => Q (.bl b) H' := by
  obtain ⟨I0, H0, I, k, ρ, d, k', F, e, q⟩ := hq
  obtain ⟨x, k1, e1, e⟩ := M.bind_some e
  obtain ⟨rfl, rfl⟩ := M.pure_some e
  exact ⟨I0, H0, I, k, ρ, x, _, F, e1, fun I1 H1 s1 => q I1 H1 _ s1 (.bl _)⟩
theorem tChain_mono {r r' : R2} {ta tb tc : TE} (hra : ∀ {x y H Q Q'}, (∀ v H, Q v H → Q' v H) → r x y H Q → r x y H Q') : True := trivial
theorem de_chain {op op' : CmpOp} {r r' : R2} {g g' : D → D → Option Bool} {f1 f2 f3 : Sem} (ho : OpR X (compareOp op) r) (ho' : OpR X (compareOp op') r') (hr : RDB G r g) (hr' : RDB G r' g') (ha : DR G X a f1) (hb : DR G X b f2) (hc : DR G X c f3)
    (hm : lastMarks [op, op'] [b, c] = false) : DE G X (.Compare a [op, op'] [b, c] pos) (dVal (dChain g g' f1 f2 f3)) := PE.mono (pe_chain ho ho' ha hb hc hm) fun σ H Q hq => by
  have h := td_val hq
  obtain ⟨I0, H0, I, k, ρ, d, k', F, e, q⟩ := h
  obtain ⟨x, k1, e1, e⟩ := M.bind_some e
  obtain ⟨y, k2, e2, e⟩ := M.bind_some e
  obtain ⟨b, k3, e3, e⟩ := M.bind_some e
  obtain ⟨e4, rfl⟩ := M.lift_some e3
  refine ⟨I0, H0, I, k, ρ, x, k1, F, e1, fun I1 H1 v s1 r1 => ⟨I0, H0, I1, k1, ρ, y, _, F.step s1, e2, fun I2 H2 u s2 r2 => ?_⟩⟩
  refine hr I2 H2 _ v u x y (.bl b) _ s2.w (r1.step s2) r2 (by show (g x y).map D.bl = _; rw [e4]; rfl) fun I3 H3 z s3 r3 => ?_
  cases r3
  refine ⟨b, rfl, ?_⟩
  cases b with
  | false =>
    obtain ⟨rfl, rfl⟩ := M.pure_some e
    exact iteF (q I3 H3 ((s1.trans s2).trans s3))
  | true =>
    obtain ⟨z, k4, e5, e⟩ := M.bind_some e
    obtain ⟨e6, rfl⟩ := M.lift_some e
    refine iteT ⟨I0, H0, I3, _, ρ, z, _, (F.step s1).step (s2.trans s3), e5, fun I4 H4 w s4 r4 => ?_⟩
    refine hr' I4 H4 _ u w y z (.bl d) _ s4.w ((r2.step s3).step s4) r4 (by show (g' y z).map D.bl = _; rw [e6]; rfl) fun I5 H5 z5 s5 r5 => ?_
    cases r5
    exact q I5 H5 ((((s1.trans s2).trans s3).trans s4).trans s5)

-- ### arguments, displays 
def dNil : SemL := fun _ k => some ([], k)
def dCons (f : Sem) (g : SemL) : SemL := fun ρ => M.bind (f ρ) fun x => M.bind (g ρ) fun xs => M.pure (x :: xs)
theorem da_nil : DA G X [] dNil := PA.mono pa_nil fun σ H Q hq => by
  obtain ⟨I0, H0, I, k, ρ, d, k', F, e, q⟩ := hq
  cases e
  exact q I H [] (Step.refl F.w) .nil
theorem da_cons {e : Expr} {es : List Expr} {f : Sem} {g : SemL} (ha : DE G X e f) (hr : DA G X es g) (hs : starEach (e :: es) X.env = (false, eval e X.env) :: starEach es X.env) : DA G X (e :: es) (dCons f g) := PA.mono (pa_cons ha hr hs) fun σ H Q hq => by
  obtain ⟨I0, H0, I, k, ρ, d, k', F, e, q⟩ := hq
  obtain ⟨x, k1, e1, e⟩ := M.bind_some e
  obtain ⟨y, k2, e2, e⟩ := M.bind_some e
  obtain ⟨rfl, rfl⟩ := M.pure_some e
  exact ⟨I0, H0, I, k, ρ, x, k1, F, e1, fun I1 H1 v s1 r1 => ⟨I0, H0, I1, k1, ρ, y, _, F.step s1, e2, fun I2 H2 u s2 r2 => q I2 H2 _ (s1.trans s2) (.cons (r1.sub s2.sub) r2)⟩⟩
def dTup (f : SemL) : Sem := fun ρ => M.bind (f ρ) fun xs => M.lift (if lim xs.length then some (.tup xs) else none)
def dLst (f : SemL) : Sem := fun ρ => M.bind (f ρ) fun xs => M.lift (if lim xs.length then some (.lst xs) else none)
theorem de_tup {es : List Expr} {f : SemL} {x1} (h : DA G X es f) : DE G X (.Tuple es x1 pos) (dTup f) := PE.mono (pe_tup h) fun σ H Q hq => by
  obtain ⟨I0, H0, I, k, ρ, d, k', F, e, q⟩ := hq
  obtain ⟨x, k1, e1, e⟩ := M.bind_some e
  obtain ⟨e3, rfl⟩ := M.lift_some e
  by_cases c : lim x.length = true
  · rw [if_pos c] at e3; cases e3
    refine ⟨I0, H0, I, k, ρ, x, _, F, e1, fun I1 H1 vs s1 r1 => ⟨by rw [r1.length]; exact lim_ok c, fun p hp => ?_⟩⟩
    obtain ⟨s2, r2⟩ := new_tup s1.w hp r1
    exact q _ _ _ (s1.trans s2) r2
  · rw [if_neg c] at e3; cases e3
theorem de_lst {es : List Expr} {f : SemL} (h : DA G X es f) : DE G X (.List es pos) (dLst f) := PE.mono (pe_lst h) fun σ H Q hq => by
  obtain ⟨I0, H0, I, k, ρ, d, k', F, e, q⟩ := hq
  obtain ⟨x, k1, e1, e⟩ := M.bind_some e
  obtain ⟨e3, rfl⟩ := M.lift_some e
  by_cases c : lim x.length = true
  · rw [if_pos c] at e3; cases e3
    refine ⟨I0, H0, I, k, ρ, x, _, F, e1, fun I1 H1 vs s1 r1 => ⟨by rw [r1.length]; exact lim_ok c, fun p hp => ?_⟩⟩
    obtain ⟨s2, r2⟩ := new_lst s1.w hp r1
    exact q _ _ _ (s1.trans s2) r2
  · rw [if_neg c] at e3; cases e3

-- ### xs[i] 
def D.ix : D → D → Option D
  | .tup xs, .int i => atI xs i
  | .lst xs, .int i => atI xs i
  | .str z, .int i => if lim z.length then (atI z.cps.toList i).map fun c => .str ⟨#[c]⟩ else none
  | _, _ => none
theorem atI_rep {I : Hp} {vs : List V} {ds : List D} {i : Int} {d : D} (r : RepL G I vs ds) (h : atI ds i = some d) : ∃ v, atI vs i = some v ∧ Rep G I v d := by
  unfold atI at h ⊢
  rw [r.length]
  cases e : ixN ds.length i with
  | none => rw [e] at h; cases h
  | some j => rw [e] at h; exact r.get h
theorem rd_ix : RD2 G (rIx G.K) D.ix := by
  intro I H k x y d e z Q w hx hy hz q
  cases d <;> cases e <;> simp only [D.ix] at hz <;> try cases hz
  · rename_i s i
    cases hx.str; cases hy.int
    by_cases c : lim s.length = true
    · rw [if_pos c] at hz
      cases e : atI s.cps.toList i with
      | none => rw [e] at hz; cases hz
      | some c' =>
        rw [e] at hz; cases hz
        exact .inr (.inr ⟨s, i, c', rfl, rfl, lim_ok c, e, q I H _ (Step.refl w) (.str _)⟩)
    · rw [if_neg c] at hz; cases hz
  · rename_i xs i
    cases hy.int
    obtain ⟨a, vs, rfl, h1, r⟩ := hx.tup w.inH
    obtain ⟨v, e, rv⟩ := atI_rep r hz
    exact .inr (.inl ⟨a, vs, i, v, rfl, rfl, h1, e, q I H v (Step.refl w) rv⟩)
  · rename_i xs i
    cases hy.int
    obtain ⟨a, vs, rfl, h1, r⟩ := hx.lst w.inH
    obtain ⟨v, e, rv⟩ := atI_rep r hz
    exact .inl ⟨a, vs, i, v, rfl, rfl, SqL.of h1, e, q I H v (Step.refl w) rv⟩
theorem de_ix {f1 f2 : Sem} (hK : X.K = G.K) (ha : DR G X a f1) (hb : DR G X b f2) (hs : PlainIx b) : DE G X (.Subscript a b pos) (dBin D.ix f1 f2) :=
  PE.mono (pe_ix ix_seq ha hb hs) fun _ _ _ h => by rw [hK]; exact td_op rd_ix h

-- ### o.f 
def D.fld (f : Str) : D → Option D
  | .ins c ds => ((c.fields.zip ds).lookup f)
  | _ => none
theorem zip_lookup {I : Hp} {f : Str} : ∀ {ns : List Str} {vs : List V} {ds : List D} {d : D}, RepL G I vs ds → (ns.zip ds).lookup f = some d → ∃ v, (ns.zip vs).lookup f = some v ∧ Rep G I v d
  | [], _, _, _, _, h => by simp at h
  | _ :: _, _, _, _, .nil, h => by simp at h
  | n :: ns, _, _, d, .cons (v := v) (d := d0) h t, e => by
    simp only [List.zip_cons_cons, List.lookup_cons] at e ⊢
    cases q : (f == n) with
    | true => rw [q] at e; cases e; exact ⟨v, rfl, h⟩
    | false => rw [q] at e; exact zip_lookup t e
/-- what must be known of a class for its fields -/
structure ClsOk (G : Gh) (c : Cn) (C : Addr) : Prop where
  cl : Cls G.K C
  no : ∀ f ∈ c.fields, NoAttr G.K C f
def dFld (f : Str) (g : Sem) : Sem := dUn (D.fld f) g
theorem lookup_mem {α : Type} {f : Str} : ∀ {ns : List Str} {ds : List α} {d : α}, (ns.zip ds).lookup f = some d → f ∈ ns
  | [], _, _, h => by simp at h
  | _ :: _, [], _, h => by simp at h
  | n :: ns, d0 :: ds, d, e => by
    simp only [List.zip_cons_cons, List.lookup_cons] at e
    cases q : (f == n) with
    | true => rw [beq_iff_eq.mp q]; exact List.mem_cons_self
    | false => rw [q] at e; exact List.mem_cons_of_mem _ (lookup_mem e)
theorem de_fld {g : Sem} {f : Str} (hK : X.K = G.K) (hC : ∀ c C, G.cls c = some C → ClsOk G c C) (ha : DE G X a g) (hb : attributeBase a f X.env (eval a X.env) = eval a X.env) : DE G X (.Attribute a f pos) (dFld f g) := PE.mono (pe_fld ha hb) fun σ H Q hq => by
  obtain ⟨I0, H0, I, k, ρ, d, k', F, e, q⟩ := hq
  obtain ⟨x, k1, e1, e⟩ := M.bind_some e
  obtain ⟨e3, rfl⟩ := M.lift_some e
  refine ⟨I0, H0, I, k, ρ, x, _, F, e1, fun I1 H1 v s1 r1 => ?_⟩
  cases x <;> simp only [D.fld] at e3 <;> try cases e3
  rename_i c ds
  cases r1 with
  | ins h hc hl r =>
    obtain ⟨v, e4, rv⟩ := zip_lookup r e3
    have ok := hC _ _ hc
    rw [hK]
    exact ⟨_, _, _, _, v, rfl, s1.w.inH _ _ h, ok.cl, ok.no f (lookup_mem e3), e4, q I1 H1 v s1 rv⟩
end
end Sky

end
section
-- SkyD: calls by data: defs, classes made, methods, built-ins. 
namespace Sky
open PySem PySem.Spec PyProof.Rows L2

abbrev Fn := List D → M D
/-- a def's promise: n arguments, the function F of their data -/
def spM (G : Gh) (n : Nat) (F : Fn) : Sp := fun vs H Q _ => vs.length = n ∧ ∃ (da : Option Addr) (me : Option (Addr × Addr × Addr)) (I : Hp) (k : Nat) (ds : List D) (d : D) (k' : Nat), WOk { G with da := da, me := me } I H k ∧ RepL { G with da := da, me := me } I vs ds ∧
  F ds k = some (d, k') ∧ ∀ I' H' v, Step { G with da := da, me := me } I H I' H' k' → Rep { G with da := da, me := me } I' v d → Q v H'
/-- what a name of the module's stands for, as a def -/
def CallOk (G : Gh) (X : Cx) (x : Str) (n : Nat) (F : Fn) : Prop :=
  ∃ (j : Nat) (f : Addr) (fd : FuncData) (ps : List Str), X.mg x = some (.ref f) ∧ PySem.W.keepIn X.K (.ref f) = true ∧ FnOk X.prog X.w X.K X.mg X.base CX0 j f fd ps (spM G n F) ∧ Room j X.A ∧ Binds X.K fd ps []
def dCall (n : Nat) (F : Fn) (g : SemL) : Sem := fun ρ => M.bind (g ρ) fun ds => match Nat.beq ds.length n with
  | true => F ds
  | false => M.fail
theorem dCall_some {n : Nat} {F : Fn} {g : SemL} {ρ : Env} {k : Nat} {r : D × Nat} (h : dCall n F g ρ k = some r) : ∃ ds k1, g ρ k = some (ds, k1) ∧ ds.length = n ∧ F ds k1 = some r := by
  obtain ⟨ds, k1, e1, e⟩ := M.bind_some h
  cases c : Nat.beq ds.length n with
  | true => rw [c] at e; exact ⟨ds, k1, e1, Nat.eq_of_beq_eq_true c, e⟩
  | false => rw [c] at e; cases e
section
variable {G : Gh} {X : Cx} {a e : Expr} {es : List Expr} {p pos apos : Pos} {x : Str}
theorem td_call {n : Nat} {F : Fn} {g : SemL} {E : XK} {σ : List (Option V)} {H : Hp} {Q : VK} (hq : tD G (dCall n F g) σ H Q) : tCall (spM G n F) [] E (tDL G g) σ H Q := by
  obtain ⟨I0, H0, I, k, ρ, d, k', Fr, e, q⟩ := hq
  obtain ⟨ds, k1, e1, e2, e3⟩ := dCall_some e
  refine ⟨I0, H0, I, k, ρ, ds, k1, Fr, e1, fun I1 H1 vs s1 r1 => ?_⟩
  show spM G n F (vs ++ []) H1 Q E
  rw [List.append_nil]
  exact ⟨by rw [r1.length]; exact e2, G.da, G.me, I1, k1, ds, d, k', s1.w, r1, e3, fun I2 H2 v s2 r2 => q I2 H2 v (s1.trans s2) r2⟩
theorem de_call {n : Nat} {F : Fn} {g : SemL} (h : CallOk G X x n F) (hg : Gl X x) (ha : DA G X (e :: es) g) (hdb : (x == ("__debug__" : Str)) = false) (he : starEach (e :: es) X.env = (false, eval e X.env) :: starEach es X.env)
    (hpl : (backTo pos (starEach es X.env)).any (·.1) = false) : DE G X (.Call (.Name x p) (e :: es) [] pos) (dCall n F g) := by
  obtain ⟨j, f, fd, ps, hm, hk, hF, hr, hb⟩ := h
  exact PE.mono (pe_call hF hr hg hm hk hb .nil pass0 ha hdb he hpl) fun _ _ _ hq => td_call hq
theorem de_call0 {n : Nat} {F : Fn} (h : CallOk G X x n F) (hg : Gl X x) (hdb : (x == ("__debug__" : Str)) = false) : DE G X (.Call (.Name x p) [] [] pos) (dCall n F dNil) := by
  obtain ⟨j, f, fd, ps, hm, hk, hF, hr, hb⟩ := h
  refine PE.mono (pe_call0 hF hr hg hm hk hb .nil pass0 hdb) fun σ H Q hq => ?_
  obtain ⟨I0, H0, I, k, ρ, d, k', Fr, e, q⟩ := hq
  obtain ⟨ds, k1, e1, e2, e3⟩ := dCall_some e
  cases e1
  exact ⟨e2, G.da, G.me, I, k, [], d, k', Fr.w, .nil, e3, fun I2 H2 v s2 r2 => q I2 H2 v s2 r2⟩

-- ### a class made 
abbrev FnI := List D → M (List D)
/-- what an __init__ promises: the attributes' data -/
def spI (G : Gh) (c : Cn) (n : Nat) (F : FnI) : Sp := fun vs H Q _ => vs.length = n + 1 ∧ ∃ (da : Option Addr) (me : Option (Addr × Addr × Addr)) (I H1 : Hp) (k : Nat) (ds fs : List D) (k' : Nat) (x dx C : Addr) (as : List V), vs = .ref x :: as ∧ H = upd (upd H1 dx (.own x)) x (.ins C dx []) ∧
  H1 x = none ∧ H1 dx = none ∧ dx ≠ x ∧ G.cls c = some C ∧ WOk { G with da := da, me := me } I H1 k ∧ RepL { G with da := da, me := me } I as ds ∧ F ds k = some (fs, k') ∧ fs.length = c.fields.length ∧
  ∀ I' H' ws, Step { G with da := da, me := me } I H1 I' H' k' → I' x = none → H' x = some (.ins C dx (c.fields.zip ws)) → RepL { G with da := da, me := me } I' ws fs → Q .non H'
def MakeOk (G : Gh) (X : Cx) (x : Str) (c : Cn) (n : Nat) (F : FnI) : Prop :=
  ∃ (j : Nat) (f C : Addr) (fd : FuncData) (ps : List Str), X.mg x = some (.ref C) ∧ G.cls c = some C ∧ Mk X.K C f ∧ FnOk X.prog X.w X.K X.mg X.base CX0 j f fd ps (spI G c n F) ∧ Room (j + 1) X.A ∧ Binds X.K fd ps []
def dMake (c : Cn) (n : Nat) (F : FnI) (g : SemL) : Sem := fun ρ => M.bind (g ρ) fun ds => match Nat.beq ds.length n with
  | true => M.bind (F ds) fun fs => match Nat.beq fs.length c.fields.length with
    | true => M.pure (.ins c fs)
    | false => M.fail
  | false => M.fail
theorem dMake_some {c : Cn} {n : Nat} {F : FnI} {g : SemL} {ρ : Env} {k : Nat} {d : D} {k' : Nat} (h : dMake c n F g ρ k = some (d, k')) :
    ∃ ds k1 fs, g ρ k = some (ds, k1) ∧ ds.length = n ∧ F ds k1 = some (fs, k') ∧ fs.length = c.fields.length ∧ d = .ins c fs := by
  obtain ⟨ds, k1, e1, e⟩ := M.bind_some h
  cases q : Nat.beq ds.length n with
  | false => rw [q] at e; cases e
  | true =>
    rw [q] at e
    obtain ⟨fs, k2, e2, e⟩ := M.bind_some e
    cases q2 : Nat.beq fs.length c.fields.length with
    | false => rw [q2] at e; cases e
    | true =>
      rw [q2] at e
      obtain ⟨rfl, rfl⟩ := M.pure_some e
      exact ⟨ds, k1, fs, e1, Nat.eq_of_beq_eq_true q, e2, Nat.eq_of_beq_eq_true q2, rfl⟩
/-- an object that is laid, then written: nothing else knows of it -/
theorem Step.keep {I H I' H' : Hp} {k' : Nat} {x : Addr} {o : HO} (s : Step G I H I' H' k') (hx : H x = none) (hI : I' x = none) (ho : H' x = some o) (hd : G.da ≠ some x) : Step G I H (upd I' x o) H' k' where
  w := ⟨fun a u e => by
    by_cases q : a = x
    · subst q; rw [upd_same] at e; cases e; exact ho
    · rw [upd_ne q] at e; exact s.w.inH a u e, s.w.scr, fun d hd' => by
      obtain ⟨h1, h2, h3⟩ := s.w.drw d hd'
      have q : d ≠ x := fun e => hd (by rw [← e]; exact hd')
      exact ⟨h1, by rw [upd_ne q]; exact h2, h3⟩⟩
  sub := fun a u e => by
    by_cases q : a = x
    · subst q
      have := s.sub a u e
      rw [hI] at this; cases this
    · rw [upd_ne q]; exact s.sub a u e
  new := fun a u e => by
    by_cases q : a = x
    · subst q; exact .inr hx
    · rw [upd_ne q] at e; exact s.new a u e
  same := s.same
theorem WOk.ne {I H : Hp} {k : Nat} {x : Addr} (w : WOk G I H k) (hx : H x = none) : G.da ≠ some x := fun e => by
  have := (w.drw x e).2.2
  rw [hx] at this; cases this
theorem td_make {c : Cn} {n : Nat} {F : FnI} {g : SemL} {C : Addr} {E : XK} {σ : List (Option V)} {H : Hp} {Q : VK} (hC : G.cls c = some C) (hq : tD G (dMake c n F g) σ H Q) : tMake C (spI G c n F) [] E (tDL G g) σ H Q := by
  obtain ⟨I0, H0, I, k, ρ, d, k', Fr, e, q⟩ := hq
  obtain ⟨ds, k1, fs, e1, e2, e3, e4, rfl⟩ := dMake_some e
  refine ⟨I0, H0, I, k, ρ, ds, k1, Fr, e1, fun I1 H1 vs s1 r1 x dx hx hdx hne => ?_⟩
  rw [List.append_nil]
  refine ⟨by rw [List.length_cons, r1.length, e2], G.da, G.me, I1, H1, k1, ds, fs, k', x, dx, C, vs, rfl, rfl, hx, hdx, hne, hC, s1.w, r1, e3, e4, fun I2 H2 ws s2 h1 h2 r2 => ⟨rfl, ?_⟩⟩
  have s3 := Step.keep (o := .ins C dx (c.fields.zip ws)) s2 hx h1 h2 (s1.w.ne hx)
  exact q _ _ _ (s1.trans s3) (.ins upd_same hC (by rw [r2.length]; exact e4) (r2.sub fun a u e => by rw [upd_ne (fun z => by rw [z, h1] at e; cases e)]; exact e))
theorem de_make {c : Cn} {n : Nat} {F : FnI} {g : SemL} (h : MakeOk G X x c n F) (hg : Gl X x) (ha : DA G X (e :: es) g) (hdb : (x == ("__debug__" : Str)) = false) (he : starEach (e :: es) X.env = (false, eval e X.env) :: starEach es X.env)
    (hpl : (backTo pos (starEach es X.env)).any (·.1) = false) : DE G X (.Call (.Name x p) (e :: es) [] pos) (dMake c n F g) := by
  obtain ⟨j, f, C, fd, ps, hm, hC, hM, hF, hr, hb⟩ := h
  exact PE.mono (pe_make hM hF hr hg hm hb .nil pass0 ha hdb he hpl) fun _ _ _ hq => td_make hC hq

-- ### methods of own classes 
def MethOk (G : Gh) (X : Cx) (c : Cn) (m : Str) (n : Nat) (F : Fn) : Prop := ∀ C, G.cls c = some C →
  ∃ (j : Nat) (f : Addr) (fd : FuncData) (ps : List Str), Cls X.K C ∧ Meth X.K C m f ∧ FnOk X.prog X.w X.K X.mg X.base CX0 j f fd ps (spM G (n + 1) F) ∧ Room j X.A ∧ Binds X.K fd ps [] ∧ m ∉ c.fields
/-- by the class of what the method is asked of -/
abbrev Mt := Cn → Str → Option (Nat × Fn)
def dMeth (mt : Mt) (m : Str) (f : Sem) (g : SemL) : Sem := fun ρ => M.bind (f ρ) fun x => match x with
  | .ins c fs => (match mt c m with
    | some (n, F) => M.bind (g ρ) fun ds => (match Nat.beq ds.length n with
      | true => F (.ins c fs :: ds)
      | false => M.fail)
    | none => M.fail)
  | _ => M.fail
theorem dMeth_some {mt : Mt} {m : Str} {f : Sem} {g : SemL} {ρ : Env} {k : Nat} {r : D × Nat} (h : dMeth mt m f g ρ k = some r) :
    ∃ c fs k1 n F ds k2, f ρ k = some (.ins c fs, k1) ∧ mt c m = some (n, F) ∧ g ρ k1 = some (ds, k2) ∧ ds.length = n ∧ F (.ins c fs :: ds) k2 = some r := by
  obtain ⟨x, k1, e1, e⟩ := M.bind_some h
  cases x <;> try cases e
  rename_i c fs
  simp only at e
  cases q : mt c m with
  | none => rw [q] at e; cases e
  | some p =>
    obtain ⟨n, F⟩ := p
    rw [q] at e
    obtain ⟨ds, k2, e2, e⟩ := M.bind_some e
    cases q2 : Nat.beq ds.length n with
    | false => rw [q2] at e; cases e
    | true => rw [q2] at e; exact ⟨c, fs, k1, n, F, ds, k2, e1, q, e2, Nat.eq_of_beq_eq_true q2, e⟩
theorem ins_lookup {c : Cn} {vs : List V} {m : Str} (h : m ∉ c.fields) : (c.fields.zip vs).lookup m = none := by
  cases e : (c.fields.zip vs).lookup m with
  | none => rfl
  | some v => exact absurd (lookup_mem e) h
theorem de_meth {mt : Mt} {m : Str} {f : Sem} {g : SemL} {o : Expr} {pl : PySem.Sem Bool} (hM : ∀ c n F, mt c m = some (n, F) → MethOk G X c m n F) (ho : DE G X o f) (ha : DA G X (e :: es) g)
    (hst : starEach (e :: es) X.env = (false, eval e X.env) :: starEach es X.env) (hpl : (backTo pos (starEach es X.env)).any (·.1) = false)
    (ht : eval (.Call (.Attribute o m apos) (e :: es) [] pos) X.env = (do
      let ov ← eval o X.env
      standAt apos.atName
      let (f, first) ← holding [ov] (getMethod ov m pl)
      callWith pos f first (backTo pos (starEach (e :: es) X.env)) (backToKw pos (keywordEach [] X.env)))) : DE G X (.Call (.Attribute o m apos) (e :: es) [] pos) (dMeth mt m f g) := by
  refine ⟨fun pins s σ H Q I hq => ?_⟩
  obtain ⟨I0, H0, Ih, k, ρ, d, k', Fr, e, q⟩ := id hq
  obtain ⟨c, fs, k1, n, F, ds, k2, e1, e2, e3, e4, e5⟩ := dMeth_some e
  refine PySem.W.methodCall_KW (pl := pl) (thn (ho.run pins s σ H (fun v H1 => ∃ I1, Step G Ih H I1 H1 k1 ∧ Rep G I1 v (.ins c fs)) I ⟨I0, H0, Ih, k, ρ, _, k1, Fr, e1, fun I1 H1 v s1 r1 => ⟨I1, s1, r1⟩⟩) fun u s1 ⟨x, H1, J1, rx, I1, t1, r1⟩ => ?_) ht
  cases r1 with
  | @ins a C dx _ vs _ h hc hl rr =>
    obtain rfl : u = Value.ref a := rx
    obtain ⟨j, f, fd, ps, cl, hm, hF, hr, hb, hno⟩ := hM c n F e2 C hc
    refine getmeth_ok J1 (t1.w.inH _ _ h) cl hm (ins_lookup hno) ?_
    refine PySem.W.callWith_K (first := [.ref a]) (h₀ := X.base) J1.ok.mod.kin hm.kp (thn (ha.run pos pins s1 σ H1 (fun us H2 => ∃ I2, Step G I1 H1 I2 H2 k2 ∧ RepL G I2 us ds) J1 ⟨I0, H0, I1, k1, ρ, ds, k2, Fr.step t1, e3, fun I2 H2 us t2 r2 => ⟨I2, t2, r2⟩⟩) fun us s2 ⟨ws, H2, J2, r, I2, t2, r2⟩ => ⟨J2.kIn, ?_⟩) hst hpl
    refine run_fn (us := .ref a :: us) (vs := .ref a :: ws) hF hr hb .nil (E := E0) pass0 J2 (.cons rfl r) ?_
    rw [List.append_nil]
    exact ⟨by rw [List.length_cons, r2.length, e4], G.da, G.me, I2, k2, _, d, k', t2.w, .cons (.ins (t2.sub _ _ h) hc hl (rr.sub t2.sub)) r2, e5, fun I3 H3 v t3 r3 => q I3 H3 v ((t1.trans t2).trans t3) r3⟩
theorem de_meth0 {mt : Mt} {m : Str} {f : Sem} {o : Expr} {pl : PySem.Sem Bool} (hM : ∀ c n F, mt c m = some (n, F) → MethOk G X c m n F) (ho : DE G X o f)
    (ht : eval (.Call (.Attribute o m apos) [] [] pos) X.env = (do
      let ov ← eval o X.env
      standAt apos.atName
      let (f, first) ← holding [ov] (getMethod ov m pl)
      callWith pos f first (backTo pos (starEach [] X.env)) (backToKw pos (keywordEach [] X.env)))) : DE G X (.Call (.Attribute o m apos) [] [] pos) (dMeth mt m f dNil) := by
  refine ⟨fun pins s σ H Q I hq => ?_⟩
  obtain ⟨I0, H0, Ih, k, ρ, d, k', Fr, e, q⟩ := id hq
  obtain ⟨c, fs, k1, n, F, ds, k2, e1, e2, e3, e4, e5⟩ := dMeth_some e
  cases e3
  refine PySem.W.methodCall_KW (pl := pl) (thn (ho.run pins s σ H (fun v H1 => ∃ I1, Step G Ih H I1 H1 k1 ∧ Rep G I1 v (.ins c fs)) I ⟨I0, H0, Ih, k, ρ, _, k1, Fr, e1, fun I1 H1 v s1 r1 => ⟨I1, s1, r1⟩⟩) fun u s1 ⟨x, H1, J1, rx, I1, t1, r1⟩ => ?_) ht
  cases r1 with
  | @ins a C dx _ vs _ h hc hl rr =>
    obtain rfl : u = Value.ref a := rx
    obtain ⟨j, f, fd, ps, cl, hm, hF, hr, hb, hno⟩ := hM c n F e2 C hc
    refine getmeth_ok J1 (t1.w.inH _ _ h) cl hm (ins_lookup hno) ?_
    refine PySem.W.callWith_K0 (first := [.ref a]) J1.kIn hm.kp (run_fn (us := [.ref a]) (vs := [.ref a]) hF hr hb .nil (E := E0) pass0 J1 (.cons rfl .nil) ?_)
    rw [List.append_nil]
    exact ⟨by rw [List.length_singleton, ← e4]; rfl, G.da, G.me, I1, k1, _, d, k', t1.w, .cons (.ins h hc hl rr) .nil, e5, fun I3 H3 v t3 r3 => q I3 H3 v (t1.trans t3) r3⟩

-- ### built-ins, by values 
/-- a call's rule by values serves a function of data -/
def RDA (G : Gh) (r : List V → Hp → VK → Prop) (g : List D → Option D) : Prop :=
  ∀ (I H : Hp) (k : Nat) (vs : List V) (ds : List D) (z : D) (Q : VK), WOk G I H k → Paired (RepB G I H) vs ds → g ds = some z → (∀ I' H' v, Step G I H I' H' k → Rep G I' v z → Q v H') → r vs H Q
/-- arguments that are read for a moment -/
def tDRL (G : Gh) (f : SemL) : TA := fun σ H Q => ∃ I0 H0 I k ρ ds k', FI G I0 H0 I H k σ ρ ∧ f ρ k = some (ds, k') ∧ ∀ I' H' vs, Step G I H I' H' k' → Paired (RepB G I' H') vs ds → Q vs H'
abbrev DRA (G : Gh) (X : Cx) (es : List Expr) (f : SemL) : Prop := PA X es (tDRL G f)
theorem RepBs.step {I H I' H' : Hp} {k' : Nat} (s : Step G I H I' H' k') : ∀ {vs : List V} {ds : List D}, Paired (RepB G I H) vs ds → Paired (RepB G I' H') vs ds
  | _, _, .nil => .nil
  | _, _, .cons h t => .cons (h.step s) (RepBs.step s t)
theorem dra_nil : DRA G X [] dNil := PA.mono pa_nil fun σ H Q hq => by
  obtain ⟨I0, H0, I, k, ρ, d, k', F, e, q⟩ := hq
  cases e
  exact q I H [] (Step.refl F.w) .nil
theorem dra_cons {e : Expr} {es : List Expr} {f : Sem} {g : SemL} (ha : DR G X e f) (hr : DRA G X es g) (hs : starEach (e :: es) X.env = (false, eval e X.env) :: starEach es X.env) : DRA G X (e :: es) (dCons f g) := PA.mono (pa_cons ha hr hs) fun σ H Q hq => by
  obtain ⟨I0, H0, I, k, ρ, d, k', F, e, q⟩ := hq
  obtain ⟨x, k1, e1, e⟩ := M.bind_some e
  obtain ⟨y, k2, e2, e⟩ := M.bind_some e
  obtain ⟨rfl, rfl⟩ := M.pure_some e
  exact ⟨I0, H0, I, k, ρ, x, k1, F, e1, fun I1 H1 v s1 r1 => ⟨I0, H0, I1, k1, ρ, y, _, F.step s1, e2, fun I2 H2 u s2 r2 => q I2 H2 _ (s1.trans s2) (.cons (r1.step s2) r2)⟩⟩
def dBi (g : List D → Option D) (f : SemL) : Sem := fun ρ => M.bind (f ρ) fun xs => M.lift (g xs)
theorem td_bi {r : List V → Hp → VK → Prop} {g : List D → Option D} (hr : RDA G r g) {f : SemL} {σ : List (Option V)} {H : Hp} {Q : VK} (hq : tD G (dBi g f) σ H Q) : tCB r (tDRL G f) σ H Q := by
  obtain ⟨I0, H0, I, k, ρ, d, k', F, e, q⟩ := hq
  obtain ⟨x, k1, e1, e⟩ := M.bind_some e
  obtain ⟨e3, rfl⟩ := M.lift_some e
  exact ⟨I0, H0, I, k, ρ, x, _, F, e1, fun I1 H1 vs s1 r1 => hr I1 H1 _ vs x d Q s1.w r1 e3 fun I2 H2 v s2 r2 => q I2 H2 v (s1.trans s2) r2⟩
theorem de_callB {id : String} {r : List V → Hp → VK → Prop} {g : List D → Option D} {f : SemL} (hc : CallR X (.builtin id) r) (hr : RDA G r g) (hg : Gl X x) (hm : X.mg x = none) (hv : bootBuiltins x = some (.builtin id)) (ha : DRA G X (e :: es) f)
    (hn : x ≠ "__name__") (hdb : (x == ("__debug__" : Str)) = false) (he : starEach (e :: es) X.env = (false, eval e X.env) :: starEach es X.env) (hpl : (backTo pos (starEach es X.env)).any (·.1) = false) :
    DE G X (.Call (.Name x p) (e :: es) [] pos) (dBi g f) := PE.mono (pe_callB hc hg hm hv ha hn hdb he hpl) fun _ _ _ h => td_bi hr h
theorem de_callT {T : String} {r : List V → Hp → VK → Prop} {g : List D → Option D} {f : SemL} (hc : CallR X (.type T) r) (hr : RDA G r g) (hg : Gl X x) (hm : X.mg x = none) (hv : bootBuiltins x = some (.type T)) (ha : DRA G X (e :: es) f)
    (hn : x ≠ "__name__") (hdb : (x == ("__debug__" : Str)) = false) (he : starEach (e :: es) X.env = (false, eval e X.env) :: starEach es X.env) (hpl : (backTo pos (starEach es X.env)).any (·.1) = false) :
    DE G X (.Call (.Name x p) (e :: es) [] pos) (dBi g f) := PE.mono (pe_callTy hc hg hm hv ha hn hdb he hpl) fun _ _ _ h => td_bi hr h

-- ### len, abs, int, tuple, list, sum, all, any, max, min 
def bLen : List D → Option D
  | [.tup xs] => some (.int xs.length)
  | [.lst xs] => some (.int xs.length)
  | [.str z] => if lim z.length then some (.int z.length) else none
  | _ => none
end
end Sky

end
section
-- SkyE: built-ins by data; comparisons by data. 
namespace Sky
open PySem PySem.Spec PyProof.Rows L2
section
variable {G : Gh} {X : Cx}
theorem paired1 {α β : Type} {R : α → β → Prop} {vs : List α} {d : β} (h : Paired R vs [d]) : ∃ v, vs = [v] ∧ R v d := by
  cases h with
  | cons h t => cases t; exact ⟨_, rfl, h⟩
theorem paired2 {α β : Type} {R : α → β → Prop} {vs : List α} {d e : β} (h : Paired R vs [d, e]) : ∃ v u, vs = [v, u] ∧ R v d ∧ R u e := by
  cases h with
  | cons h t => cases t with | cons h' t => cases t; exact ⟨_, _, rfl, h, h'⟩
/-- a list of whole numbers -/
def intsD : List D → Option (List Int)
  | [] => some []
  | .int i :: ds => (intsD ds).map (i :: ·)
  | _ :: _ => none
theorem ints_rep {I : Hp} : ∀ {vs : List V} {ds : List D} {ns : List Int}, RepL G I vs ds → intsD ds = some ns → vs = ns.map V.int
  | _, _, _, .nil, h => by cases h; rfl
  | _, _, ns, .cons (d := d) (ds := ds) h t, e => by
    cases d <;> simp only [intsD] at e <;> try cases e
    cases q : intsD ds with
    | none => rw [q] at e; cases e
    | some ms => rw [q] at e; cases e; cases h; rw [ints_rep t q]; rfl
def boolsD : List D → Option (List Bool)
  | [] => some []
  | .bl i :: ds => (boolsD ds).map (i :: ·)
  | _ :: _ => none
theorem bools_rep {I : Hp} : ∀ {vs : List V} {ds : List D} {ns : List Bool}, RepL G I vs ds → boolsD ds = some ns → vs = ns.map V.bl
  | _, _, _, .nil, h => by cases h; rfl
  | _, _, ns, .cons (d := d) (ds := ds) h t, e => by
    cases d <;> simp only [boolsD] at e <;> try cases e
    cases q : boolsD ds with
    | none => rw [q] at e; cases e
    | some ms => rw [q] at e; cases e; cases h; rw [bools_rep t q]; rfl

theorem bLen_ok : RDA G (fun xs H Q => ∃ x n, xs = [x] ∧ LenV G.K x H n ∧ Q (.int n) H) bLen := by
  intro I H k vs ds z Q w hv hz q
  match ds, hv, hz with
  | [.tup xs], hv, hz =>
    simp only [bLen] at hz; cases hz
    obtain ⟨v, rfl, h⟩ := paired1 hv
    obtain ⟨a, us, rfl, h1, r⟩ := h.tup w.inH
    exact ⟨_, xs.length, rfl, .inr ⟨us, h1, r.length.symm⟩, q I H _ (Step.refl w) (.int _)⟩
  | [.lst xs], hv, hz =>
    simp only [bLen] at hz; cases hz
    obtain ⟨v, rfl, h⟩ := paired1 hv
    obtain ⟨a, us, rfl, h1, r⟩ := h.lst w.inH
    exact ⟨_, xs.length, rfl, .inl ⟨us, SqL.of h1, r.length.symm⟩, q I H _ (Step.refl w) (.int _)⟩
  | [.str s], hv, hz =>
    simp only [bLen] at hz
    obtain ⟨v, rfl, h⟩ := paired1 hv
    cases h.str
    by_cases c : lim s.length = true
    · rw [if_pos c] at hz; cases hz
      exact ⟨_, s.length, rfl, ⟨lim_ok c, rfl⟩, q I H _ (Step.refl w) (.int _)⟩
    · rw [if_neg c] at hz; cases hz
def bAbs : List D → Option D
  | [.int i] => some (.int (if i < 0 then -i else i))
  | _ => none
theorem bAbs_ok : RDA G (fun xs H Q => ∃ i, xs = [.int i] ∧ Q (.int (if i < 0 then -i else i)) H) bAbs := by
  intro I H k vs ds z Q w hv hz q
  match ds, hv, hz with
  | [.int i], hv, hz =>
    simp only [bAbs] at hz; cases hz
    obtain ⟨v, rfl, h⟩ := paired1 hv
    cases h.int
    exact ⟨i, rfl, q I H _ (Step.refl w) (.int _)⟩
def bInt : List D → Option D
  | [.int i] => some (.int i)
  | [.bl b] => some (.int (if b then 1 else 0))
  | _ => none
theorem bInt_ok : RDA G (fun xs H Q => (∃ i, xs = [.int i] ∧ Q (.int i) H) ∨ ∃ k, xs = [.bl k] ∧ Q (.int (if k then 1 else 0)) H) bInt := by
  intro I H k vs ds z Q w hv hz q
  match ds, hv, hz with
  | [.int i], hv, hz =>
    simp only [bInt] at hz; cases hz
    obtain ⟨v, rfl, h⟩ := paired1 hv
    cases h.int
    exact .inl ⟨i, rfl, q I H _ (Step.refl w) (.int _)⟩
  | [.bl b], hv, hz =>
    simp only [bInt] at hz; cases hz
    obtain ⟨v, rfl, h⟩ := paired1 hv
    cases h.bl
    exact .inr ⟨b, rfl, q I H _ (Step.refl w) (.int _)⟩
def bTup : List D → Option D
  | [.lst xs] => some (.tup xs)
  | [.tup xs] => some (.tup xs)
  | _ => none
theorem bTup_ok : RDA G (fun xs H Q => ∃ p ys, xs = [.ref p] ∧ ((SqL G.K H p ys ∧ ∀ l, H l = none → Q (.ref l) (upd H l (.tup ys))) ∨ (SqT G.K H p ys ∧ Q (.ref p) H))) bTup := by
  intro I H k vs ds z Q w hv hz q
  match ds, hv, hz with
  | [.lst xs], hv, hz =>
    simp only [bTup] at hz; cases hz
    obtain ⟨v, rfl, h⟩ := paired1 hv
    obtain ⟨a, us, rfl, h1, r⟩ := h.lst w.inH
    refine ⟨a, us, rfl, .inl ⟨SqL.of h1, fun l hl => ?_⟩⟩
    obtain ⟨s, rp⟩ := new_tup w hl r
    exact q _ _ _ s rp
  | [.tup xs], hv, hz =>
    simp only [bTup] at hz; cases hz
    obtain ⟨v, rfl, h⟩ := paired1 hv
    have hr : Rep G I v (.tup xs) := by
      rcases h with h | ⟨_, _, h, _⟩
      · exact h
      · exact False.elim h
    obtain ⟨a, us, rfl, h1, r⟩ := h.tup w.inH
    exact ⟨a, us, rfl, .inr ⟨h1, q I H _ (Step.refl w) hr⟩⟩
def bLst : List D → Option D
  | [.lst xs] => some (.lst xs)
  | [.tup xs] => some (.lst xs)
  | _ => none
theorem bLst_ok : RDA G (fun xs H Q => ∃ p ys, xs = [.ref p] ∧ (SqL G.K H p ys ∨ SqT G.K H p ys) ∧ ∀ l, H l = none → Q (.ref l) (upd H l (.lst ys))) bLst := by
  intro I H k vs ds z Q w hv hz q
  match ds, hv, hz with
  | [.lst xs], hv, hz =>
    simp only [bLst] at hz; cases hz
    obtain ⟨v, rfl, h⟩ := paired1 hv
    obtain ⟨a, us, rfl, h1, r⟩ := h.lst w.inH
    refine ⟨a, us, rfl, .inl (SqL.of h1), fun l hl => ?_⟩
    obtain ⟨s, rp⟩ := new_lst w hl r
    exact q _ _ _ s rp
  | [.tup xs], hv, hz =>
    simp only [bLst] at hz; cases hz
    obtain ⟨v, rfl, h⟩ := paired1 hv
    obtain ⟨a, us, rfl, h1, r⟩ := h.tup w.inH
    refine ⟨a, us, rfl, .inr h1, fun l hl => ?_⟩
    obtain ⟨s, rp⟩ := new_lst w hl r
    exact q _ _ _ s rp
def bSum : List D → Option D
  | [.lst xs] => (intsD xs).map fun ns => .int ns.sum
  | _ => none
theorem bSum_ok : RDA G (rSum G.K) bSum := by
  intro I H k vs ds z Q w hv hz q
  match ds, hv, hz with
  | [.lst xs], hv, hz =>
    simp only [bSum] at hz
    cases e : intsD xs with
    | none => rw [e] at hz; cases hz
    | some ns =>
      rw [e] at hz; cases hz
      obtain ⟨v, rfl, h⟩ := paired1 hv
      obtain ⟨a, us, rfl, h1, r⟩ := h.lst w.inH
      exact ⟨a, ns, rfl, SqL.of (by rw [← ints_rep r e]; exact h1), q I H _ (Step.refl w) (.int _)⟩
def bAll : List D → Option D
  | [.lst xs] => (boolsD xs).map fun ns => .bl (ns.all id)
  | _ => none
def bAny : List D → Option D
  | [.lst xs] => (boolsD xs).map fun ns => .bl (ns.any id)
  | _ => none
theorem bAll_ok : RDA G (rAll G.K) bAll := by
  intro I H k vs ds z Q w hv hz q
  match ds, hv, hz with
  | [.lst xs], hv, hz =>
    simp only [bAll] at hz
    cases e : boolsD xs with
    | none => rw [e] at hz; cases hz
    | some ns =>
      rw [e] at hz; cases hz
      obtain ⟨v, rfl, h⟩ := paired1 hv
      obtain ⟨a, us, rfl, h1, r⟩ := h.lst w.inH
      exact ⟨a, ns, rfl, SqL.of (by rw [← bools_rep r e]; exact h1), q I H _ (Step.refl w) (.bl _)⟩
theorem bAny_ok : RDA G (rAny G.K) bAny := by
  intro I H k vs ds z Q w hv hz q
  match ds, hv, hz with
  | [.lst xs], hv, hz =>
    simp only [bAny] at hz
    cases e : boolsD xs with
    | none => rw [e] at hz; cases hz
    | some ns =>
      rw [e] at hz; cases hz
      obtain ⟨v, rfl, h⟩ := paired1 hv
      obtain ⟨a, us, rfl, h1, r⟩ := h.lst w.inH
      exact ⟨a, ns, rfl, SqL.of (by rw [← bools_rep r e]; exact h1), q I H _ (Step.refl w) (.bl _)⟩
/-- the greatest, the least of some -/
def maxI : List Int → Int
  | [] => 0
  | i :: l => l.foldl (fun m j => if j > m then j else m) i
def minI : List Int → Int
  | [] => 0
  | i :: l => l.foldl (fun m j => if j < m then j else m) i
theorem foldmax (l : List Int) : ∀ i, (l.foldl (fun m j => if j > m then j else m) i ∈ i :: l) ∧ ∀ y ∈ i :: l, y ≤ l.foldl (fun m j => if j > m then j else m) i := by
  induction l with
  | nil => intro i; exact ⟨List.mem_cons_self, fun y hy => by
    rcases List.mem_cons.mp hy with rfl | hy
    · exact Int.le_refl _
    · cases hy⟩
  | cons a l ih =>
    intro i
    simp only [List.foldl_cons]
    by_cases c : a > i
    · rw [if_pos c]
      obtain ⟨h1, h2⟩ := ih a
      refine ⟨List.mem_cons_of_mem _ h1, fun y hy => ?_⟩
      rcases List.mem_cons.mp hy with rfl | hy
      · have := h2 a List.mem_cons_self; omega
      · exact h2 y hy
    · rw [if_neg c]
      obtain ⟨h1, h2⟩ := ih i
      refine ⟨?_, fun y hy => ?_⟩
      · rcases List.mem_cons.mp h1 with e | h
        · rw [e]; exact List.mem_cons_self
        · exact List.mem_cons_of_mem _ (List.mem_cons_of_mem _ h)
      · rcases List.mem_cons.mp hy with rfl | hy
        · exact h2 _ List.mem_cons_self
        · rcases List.mem_cons.mp hy with rfl | hy
          · have := h2 i List.mem_cons_self; omega
          · exact h2 y (List.mem_cons_of_mem _ hy)
theorem foldmin (l : List Int) : ∀ i, (l.foldl (fun m j => if j < m then j else m) i ∈ i :: l) ∧ ∀ y ∈ i :: l, l.foldl (fun m j => if j < m then j else m) i ≤ y := by
  induction l with
  | nil => intro i; exact ⟨List.mem_cons_self, fun y hy => by
    rcases List.mem_cons.mp hy with rfl | hy
    · exact Int.le_refl _
    · cases hy⟩
  | cons a l ih =>
    intro i
    simp only [List.foldl_cons]
    by_cases c : a < i
    · rw [if_pos c]
      obtain ⟨h1, h2⟩ := ih a
      refine ⟨List.mem_cons_of_mem _ h1, fun y hy => ?_⟩
      rcases List.mem_cons.mp hy with rfl | hy
      · have := h2 a List.mem_cons_self; omega
      · exact h2 y hy
    · rw [if_neg c]
      obtain ⟨h1, h2⟩ := ih i
      refine ⟨?_, fun y hy => ?_⟩
      · rcases List.mem_cons.mp h1 with e | h
        · rw [e]; exact List.mem_cons_self
        · exact List.mem_cons_of_mem _ (List.mem_cons_of_mem _ h)
      · rcases List.mem_cons.mp hy with rfl | hy
        · exact h2 _ List.mem_cons_self
        · rcases List.mem_cons.mp hy with rfl | hy
          · have := h2 i List.mem_cons_self; omega
          · exact h2 y (List.mem_cons_of_mem _ hy)
def bMax : List D → Option D
  | [.lst xs] => (match intsD xs with | some (i :: l) => some (.int (maxI (i :: l))) | _ => none)
  | [.int i, .int j] => some (.int (if j > i then j else i))
  | _ => none
def bMin : List D → Option D
  | [.lst xs] => (match intsD xs with | some (i :: l) => some (.int (minI (i :: l))) | _ => none)
  | [.int i, .int j] => some (.int (if j < i then j else i))
  | _ => none
theorem bMax_ok : RDA G (fun xs H Q => rMax G.K xs H Q ∨ ∃ i j, xs = [.int i, .int j] ∧ Q (.int (if j > i then j else i)) H) bMax := by
  intro I H k vs ds z Q w hv hz q
  match ds, hv, hz with
  | [.lst xs], hv, hz =>
    simp only [bMax] at hz
    split at hz
    · rename_i i l e
      cases hz
      obtain ⟨v, rfl, h⟩ := paired1 hv
      obtain ⟨a, us, rfl, h1, r⟩ := h.lst w.inH
      refine .inl ⟨a, i :: l, rfl, SqL.of (by rw [← ints_rep r e]; exact h1), Nat.succ_pos _, fun m hm hle => ?_⟩
      obtain ⟨g1, g2⟩ := foldmax l i
      have e2 : m = maxI (i :: l) := Int.le_antisymm (g2 m hm) (hle _ g1)
      rw [e2]
      exact q I H _ (Step.refl w) (.int _)
    · cases hz
  | [.int i, .int j], hv, hz =>
    simp only [bMax] at hz; cases hz
    obtain ⟨v, u, rfl, h1, h2⟩ := paired2 hv
    cases h1.int; cases h2.int
    exact .inr ⟨i, j, rfl, q I H _ (Step.refl w) (.int _)⟩
theorem bMin_ok : RDA G (fun xs H Q => rMin G.K xs H Q ∨ ∃ i j, xs = [.int i, .int j] ∧ Q (.int (if j < i then j else i)) H) bMin := by
  intro I H k vs ds z Q w hv hz q
  match ds, hv, hz with
  | [.lst xs], hv, hz =>
    simp only [bMin] at hz
    split at hz
    · rename_i i l e
      cases hz
      obtain ⟨v, rfl, h⟩ := paired1 hv
      obtain ⟨a, us, rfl, h1, r⟩ := h.lst w.inH
      refine .inl ⟨a, i :: l, rfl, SqL.of (by rw [← ints_rep r e]; exact h1), Nat.succ_pos _, fun m hm hle => ?_⟩
      obtain ⟨g1, g2⟩ := foldmin l i
      have e2 : m = minI (i :: l) := Int.le_antisymm (hle _ g1) (g2 m hm)
      rw [e2]
      exact q I H _ (Step.refl w) (.int _)
    · cases hz
  | [.int i, .int j], hv, hz =>
    simp only [bMin] at hz; cases hz
    obtain ⟨v, u, rfl, h1, h2⟩ := paired2 hv
    cases h1.int; cases h2.int
    exact .inr ⟨i, j, rfl, q I H _ (Step.refl w) (.int _)⟩

-- ### comparisons 
def cLt : D → D → Option Bool
  | .int i, .int j => some (decide (i < j))
  | _, _ => none
def cLe : D → D → Option Bool
  | .int i, .int j => some (decide (i ≤ j))
  | _, _ => none
def cGt : D → D → Option Bool
  | .int i, .int j => some (decide (j < i))
  | _, _ => none
def cGe : D → D → Option Bool
  | .int i, .int j => some (decide (j ≤ i))
  | _, _ => none
theorem rd_lt : RDB G (rI0 fun i j => .bl (decide (i < j))) cLt := by
  intro I H k x y d e z Q w hx hy hz q
  cases d <;> cases e <;> simp only [cLt, Option.map] at hz <;> cases hz
  cases hx.int; cases hy.int
  exact ⟨_, _, rfl, rfl, q I H _ (Step.refl w) (.bl _)⟩
theorem rd_le : RDB G (rI0 fun i j => .bl (decide (i ≤ j))) cLe := by
  intro I H k x y d e z Q w hx hy hz q
  cases d <;> cases e <;> simp only [cLe, Option.map] at hz <;> cases hz
  cases hx.int; cases hy.int
  exact ⟨_, _, rfl, rfl, q I H _ (Step.refl w) (.bl _)⟩
theorem rd_gt : RDB G (rI0 fun i j => .bl (decide (j < i))) cGt := by
  intro I H k x y d e z Q w hx hy hz q
  cases d <;> cases e <;> simp only [cGt, Option.map] at hz <;> cases hz
  cases hx.int; cases hy.int
  exact ⟨_, _, rfl, rfl, q I H _ (Step.refl w) (.bl _)⟩
theorem rd_ge : RDB G (rI0 fun i j => .bl (decide (j ≤ i))) cGe := by
  intro I H k x y d e z Q w hx hy hz q
  cases d <;> cases e <;> simp only [cGe, Option.map] at hz <;> cases hz
  cases hx.int; cases hy.int
  exact ⟨_, _, rfl, rfl, q I H _ (Step.refl w) (.bl _)⟩
mutual
def D.py : D → Option PyData
  | .non => some .none
  | .bl b => some (.bool b)
  | .int i => some (.int i)
  | .str x => some (.str x)
  | .tup xs => (D.pys xs).map .tuple
  | .lst xs => (D.pys xs).map .list
  | .ins _ _ => none
  | .dK _ => none
  | .dT _ => none
  | .scr => none
  | .drw => none
def D.pys : List D → Option (List PyData)
  | [] => some []
  | d :: ds => (match d.py, D.pys ds with
    | some p, some ps => some (p :: ps)
    | _, _ => none)
end
mutual
theorem py_rep {I H : Hp} (w : Sub I H) : ∀ {v : V} {d : D} {p : PyData}, Rep G I v d → d.py = some p → Dp G.K H v p
  | _, _, _, .non, e => by simp only [D.py] at e; cases e; exact .non
  | _, _, _, .bl b, e => by simp only [D.py] at e; cases e; exact .bl b
  | _, _, _, .int i, e => by simp only [D.py] at e; cases e; exact .int i
  | _, _, _, .str x, e => by simp only [D.py] at e; cases e; exact .str x
  | _, _, _, .tup (ds := ds) h r, e => by
    simp only [D.py] at e
    cases q : D.pys ds with
    | none => rw [q] at e; cases e
    | some ps => rw [q] at e; cases e; exact .tup (sqT_sub w h) (pys_rep w r q)
  | _, _, _, .lst (ds := ds) h r, e => by
    simp only [D.py] at e
    cases q : D.pys ds with
    | none => rw [q] at e; cases e
    | some ps => rw [q] at e; cases e; exact .lst (SqL.of (w _ _ h)) (pys_rep w r q)
  | _, _, _, .ins _ _ _ _, e => by simp only [D.py] at e; cases e
  | _, _, _, .dK _ _ _, e => by simp only [D.py] at e; cases e
  | _, _, _, .dT _ _ _, e => by simp only [D.py] at e; cases e
  | _, _, _, .scr, e => by simp only [D.py] at e; cases e
  | _, _, _, .drw _, e => by simp only [D.py] at e; cases e
theorem pys_rep {I H : Hp} (w : Sub I H) : ∀ {vs : List V} {ds : List D} {ps : List PyData}, RepL G I vs ds → D.pys ds = some ps → DpAll G.K H vs ps
  | _, _, _, .nil, e => by simp only [D.pys] at e; cases e; exact .nil
  | _, _, _, .cons (d := d) (ds := ds) h t, e => by
    simp only [D.pys] at e
    cases q : d.py with
    | none => rw [q] at e; cases e
    | some p =>
      cases q2 : D.pys ds with
      | none => rw [q, q2] at e; cases e
      | some ps => rw [q, q2] at e; cases e; exact .cons (py_rep w h q) (pys_rep w t q2)
end
theorem pyB {I H : Hp} {v : V} {d : D} {p : PyData} (w : Sub I H) (h : RepB G I H v d) (e : d.py = some p) : Dp G.K H v p := by
  rcases h with h | ⟨a, rfl, h, _⟩
  · exact py_rep w h e
  · cases d <;> try exact False.elim h
    · obtain ⟨vs, h, r⟩ := h
      rename_i ds
      simp only [D.py] at e
      cases q : D.pys ds with
      | none => rw [q] at e; cases e
      | some ps => rw [q] at e; cases e; exact .lst (SqL.of h) (pys_rep w r q)
    · simp only [D.py] at e; cases e
    · simp only [D.py] at e; cases e
def cEqP (x y : D) : Option Bool := match x.py, y.py with
  | some p, some q => if SeqAt.shaped p && SeqAt.shaped q then some (PyData.eqv p q) else none
  | _, _ => none
def cNeP (x y : D) : Option Bool := (cEqP x y).map (!·)
theorem cEqP_some {x y : D} {b : Bool} (h : cEqP x y = some b) : ∃ p q, x.py = some p ∧ y.py = some q ∧ SeqAt.shaped p = true ∧ SeqAt.shaped q = true ∧ b = PyData.eqv p q := by
  unfold cEqP at h
  split at h
  · rename_i p q e1 e2
    by_cases c : (SeqAt.shaped p && SeqAt.shaped q) = true
    · rw [if_pos c] at h; cases h
      obtain ⟨c1, c2⟩ := Bool.and_eq_true_iff.mp c
      exact ⟨p, q, e1, e2, c1, c2, rfl⟩
    · rw [if_neg c] at h; cases h
  · cases h
theorem rd_eqP : RDB G (rEqD G.K) cEqP := by
  intro I H k x y d e z Q w hx hy hz q
  cases c : cEqP d e with
  | none => simp only [c, Option.map] at hz; cases hz
  | some b =>
    simp only [c, Option.map] at hz; cases hz
    obtain ⟨p, p', e1, e2, s1, s2, rfl⟩ := cEqP_some c
    exact ⟨p, p', pyB w.inH hx e1, pyB w.inH hy e2, s1, s2, q I H _ (Step.refl w) (.bl _)⟩
theorem rd_neP : RDB G (rNeD G.K) cNeP := by
  intro I H k x y d e z Q w hx hy hz q
  cases c : cEqP d e with
  | none => simp only [cNeP, c, Option.map] at hz; cases hz
  | some b =>
    simp only [cNeP, c, Option.map] at hz; cases hz
    obtain ⟨p, p', e1, e2, s1, s2, rfl⟩ := cEqP_some c
    exact ⟨p, p', pyB w.inH hx e1, pyB w.inH hy e2, s1, s2, q I H _ (Step.refl w) (.bl _)⟩
end
end Sky

end
section
-- SkyF: targets, what is walked, comprehensions, by data. 
namespace Sky
open PySem PySem.Spec PyProof.Rows L2

-- ### slots stored, forgotten 
section
variable {G : Gh} {I0 H0 I H : Hp} {k : Nat} {σ : List (Option V)} {ρ : Env}
theorem set_get {α : Type} {l : List α} {i j : Nat} {a b : α} (h : (l.set i a)[j]? = some b) : (j = i ∧ b = a) ∨ (j ≠ i ∧ l[j]? = some b) := by
  by_cases e : i = j
  · subst e
    by_cases q : i < l.length
    · rw [List.getElem?_set_self q] at h; cases h; exact .inl ⟨rfl, rfl⟩
    · rw [List.getElem?_eq_none (by simpa using q)] at h; cases h
  · rw [List.getElem?_set_ne e] at h; exact .inr ⟨Ne.symm e, h⟩
theorem FI.set (F : FI G I0 H0 I H k σ ρ) {v : V} {d : D} (i : Nat) (r : Rep G I v d) : FI G I0 H0 I H k (σ.set i (some v)) (ρ.set i (.val d)) where
  st := F.st
  len := by simpa using F.len
  val := fun j e h => by
    rcases set_get h with ⟨rfl, e1⟩ | ⟨ne, h⟩
    · cases e1
      have q : j < ρ.length := by
        have := (List.getElem?_eq_some_iff.mp h).1
        simpa using this
      exact ⟨v, by rw [List.getElem?_set_self (by rw [F.len]; exact q)], r⟩
    · obtain ⟨u, h1, h2⟩ := F.val j e h
      exact ⟨u, by rw [List.getElem?_set_ne (Ne.symm ne)]; exact h1, h2⟩
  own := fun j e h => by
    rcases set_get h with ⟨rfl, e1⟩ | ⟨ne, h⟩
    · cases e1
    · obtain ⟨a, h1, h2⟩ := F.own j e h
      exact ⟨a, by rw [List.getElem?_set_ne (Ne.symm ne)]; exact h1, h2⟩
  dis := fun j l d1 d2 a h1 h2 h3 h4 => by
    rcases set_get h1 with ⟨rfl, h⟩ | ⟨ne, h1⟩
    · cases h
    · rcases set_get h2 with ⟨rfl, h⟩ | ⟨ne2, h2⟩
      · cases h
      · rw [List.getElem?_set_ne (Ne.symm ne)] at h3
        rw [List.getElem?_set_ne (Ne.symm ne2)] at h4
        exact F.dis j l d1 d2 a h1 h2 h3 h4
  me := fun j c ds h => by
    rcases set_get h with ⟨rfl, e1⟩ | ⟨ne, h⟩
    · cases e1
    · obtain ⟨x, dx, C, vs, h1, h2, h3⟩ := F.me j c ds h
      exact ⟨x, dx, C, vs, h1, by rw [List.getElem?_set_ne (Ne.symm ne)]; exact h2, h3⟩
  one := fun j l c e ds es h1 h2 => by
    rcases set_get h1 with ⟨rfl, h⟩ | ⟨ne, h1⟩
    · cases h
    · rcases set_get h2 with ⟨rfl, h⟩ | ⟨ne2, h2⟩
      · cases h
      · exact F.one j l c e ds es h1 h2
def wipeE (ρ : Env) : List Nat → Env
  | [] => ρ
  | v :: vs => (wipeE ρ vs).set v .no
theorem FI.wipe1 (F : FI G I0 H0 I H k σ ρ) (i : Nat) : FI G I0 H0 I H k (σ.set i none) (ρ.set i .no) where
  st := F.st
  len := by simpa using F.len
  val := fun j e h => by
    rcases set_get h with ⟨rfl, e1⟩ | ⟨ne, h⟩
    · cases e1
    · obtain ⟨u, h1, h2⟩ := F.val j e h
      exact ⟨u, by rw [List.getElem?_set_ne (Ne.symm ne)]; exact h1, h2⟩
  own := fun j e h => by
    rcases set_get h with ⟨rfl, e1⟩ | ⟨ne, h⟩
    · cases e1
    · obtain ⟨a, h1, h2⟩ := F.own j e h
      exact ⟨a, by rw [List.getElem?_set_ne (Ne.symm ne)]; exact h1, h2⟩
  dis := fun j l d1 d2 a h1 h2 h3 h4 => by
    rcases set_get h1 with ⟨rfl, h⟩ | ⟨ne, h1⟩
    · cases h
    · rcases set_get h2 with ⟨rfl, h⟩ | ⟨ne2, h2⟩
      · cases h
      · rw [List.getElem?_set_ne (Ne.symm ne)] at h3
        rw [List.getElem?_set_ne (Ne.symm ne2)] at h4
        exact F.dis j l d1 d2 a h1 h2 h3 h4
  me := fun j c ds h => by
    rcases set_get h with ⟨rfl, e1⟩ | ⟨ne, h⟩
    · cases e1
    · obtain ⟨x, dx, C, vs, h1, h2, h3⟩ := F.me j c ds h
      exact ⟨x, dx, C, vs, h1, by rw [List.getElem?_set_ne (Ne.symm ne)]; exact h2, h3⟩
  one := fun j l c e ds es h1 h2 => by
    rcases set_get h1 with ⟨rfl, h⟩ | ⟨ne, h1⟩
    · cases h
    · rcases set_get h2 with ⟨rfl, h⟩ | ⟨ne2, h2⟩
      · cases h
      · exact F.one j l c e ds es h1 h2
theorem FI.wipe (F : FI G I0 H0 I H k σ ρ) : ∀ vs : List Nat, FI G I0 H0 I H k (L2.wipe σ vs) (wipeE ρ vs)
  | [] => F
  | v :: vs => (FI.wipe F vs).wipe1 v
end

-- ### targets 
structure Tg where
  put : D → Env → Option Env
  slots : List Nat
structure Tgs where
  put : List D → Env → Option Env
  slots : List Nat
def tgName (i : Nat) : Tg := ⟨fun d ρ => some (ρ.set i (.val d)), [i]⟩
def tgsNil : Tgs := ⟨fun ds ρ => match ds with | [] => some ρ | _ => none, []⟩
def tgsCons (t : Tg) (u : Tgs) : Tgs := ⟨fun ds ρ => match ds with
  | d :: ds => (match t.put d ρ with | some ρ' => u.put ds ρ' | none => none)
  | [] => none, t.slots ++ u.slots⟩
def tgTup (n : Nat) (t : Tgs) : Tg := ⟨fun d ρ => match d with
  | .tup ds => (match Nat.beq ds.length n with | true => t.put ds ρ | false => none)
  | _ => none, t.slots⟩
/-- only these slots were stored -/
def Off (ss : List Nat) (σ σ' : List (Option V)) : Prop := σ'.length = σ.length ∧ ∀ j, j ∉ ss → σ'[j]? = σ[j]?
def tDG (G : Gh) (t : Tg) : TG := fun v σ H Q => ∃ I0 H0 I k ρ d ρ', FI G I0 H0 I H k σ ρ ∧ Rep G I v d ∧ t.put d ρ = some ρ' ∧ ∀ σ', FI G I0 H0 I H k σ' ρ' → Off t.slots σ σ' → Q σ' H
def tDGs (G : Gh) (t : Tgs) : TGs := fun vs σ H Q => ∃ I0 H0 I k ρ ds ρ', FI G I0 H0 I H k σ ρ ∧ RepL G I vs ds ∧ t.put ds ρ = some ρ' ∧ ∀ σ', FI G I0 H0 I H k σ' ρ' → Off t.slots σ σ' → Q σ' H
theorem _root_.L2.PG.mono {X : Cx} {e : Expr} {t t' : TG} (h : PG X e t) (w : ∀ v σ H Q, t' v σ H Q → t v σ H Q) : PG X e t' := ⟨fun pins s σ H v u Q I r q => h.run pins s σ H v u Q I r (w v σ H Q q)⟩
theorem _root_.L2.PGs.mono {X : Cx} {e : List Expr} {t t' : TGs} (h : PGs X e t) (w : ∀ v σ H Q, t' v σ H Q → t v σ H Q) : PGs X e t' := ⟨fun pins s σ H v u Q I r q => h.run pins s σ H v u Q I r (w v σ H Q q)⟩
theorem _root_.L2.PI.mono {X : Cx} {g e : Expr} {t t' : TI} (h : PI X g e t) (w : ∀ σ H Q, t' σ H Q → t σ H Q) : PI X g e t' := ⟨fun pins s σ H Q I q => h.run pins s σ H Q I (w σ H Q q)⟩
abbrev DG (G : Gh) (X : Cx) (e : Expr) (t : Tg) : Prop := PG X e (tDG G t)
abbrev DGs (G : Gh) (X : Cx) (e : List Expr) (t : Tgs) : Prop := PGs X e (tDGs G t)
section
variable {G : Gh} {X : Cx} {pos : Pos}
theorem dg_name {e : Expr} {i : Nat} (h : PG X e (gName i)) : DG G X e (tgName i) := PG.mono h fun v σ H Q hq => by
  obtain ⟨I0, H0, I, k, ρ, d, ρ', F, r, e, q⟩ := hq
  cases e
  exact q _ (F.set i r) ⟨List.length_set, fun j hj => List.getElem?_set_ne (fun e => hj (by rw [← e]; exact List.mem_singleton_self _))⟩
theorem dgs_nil : DGs G X [] tgsNil := PGs.mono pgs_nil fun v σ H Q hq => by
  obtain ⟨I0, H0, I, k, ρ, d, ρ', F, r, e, q⟩ := hq
  cases d with
  | nil => cases e; cases r; exact ⟨rfl, q _ F ⟨rfl, fun _ _ => rfl⟩⟩
  | cons _ _ => cases e
theorem dgs_cons {e : Expr} {es : List Expr} {t : Tg} {u : Tgs} (h1 : DG G X e t) (h2 : DGs G X es u) (hs : (assignEach (e :: es) X.env).map (·.2) = assign e X.env :: (assignEach es X.env).map (·.2)) : DGs G X (e :: es) (tgsCons t u) :=
  PGs.mono (pgs_cons h1 h2 hs) fun v σ H Q hq => by
    obtain ⟨I0, H0, I, k, ρ, d, ρ', F, r, e, q⟩ := hq
    cases r with
    | nil => cases e
    | cons r rr =>
      rename_i v d vs ds
      simp only [tgsCons] at e
      cases c : t.put d ρ with
      | none => rw [c] at e; cases e
      | some ρ1 =>
        rw [c] at e
        exact ⟨v, vs, rfl, I0, H0, I, k, ρ, d, ρ1, F, r, c, fun σ1 F1 o1 => ⟨I0, H0, I, k, ρ1, ds, ρ', F1, rr, e, fun σ2 F2 o2 => q σ2 F2 ⟨o2.1.trans o1.1, fun j hj =>
          (o2.2 j fun z => hj (List.mem_append_right _ z)).trans (o1.2 j fun z => hj (List.mem_append_left _ z))⟩⟩⟩
theorem dg_tup {es : List Expr} {x : Nat} {t : Tgs} {n : Nat} (hK : X.K = G.K) (hc : X.calm = true) (h : DGs G X es t) (hn : (assignEach es X.env).length = n) (hst : (assignEach es X.env).findIdx? (·.1) = none) : DG G X (.Tuple es x pos) (tgTup n t) :=
  PG.mono (pg_tup hc h hn hst) fun v σ H Q hq => by
    obtain ⟨I0, H0, I, k, ρ, d, ρ', F, r, e, q⟩ := hq
    cases r <;> simp only [tgTup] at e <;> try cases e
    rename_i a vs ds h r
    cases c : Nat.beq ds.length n with
    | false => rw [c] at e; cases e
    | true =>
      rw [c] at e
      rw [hK]
      exact ⟨a, vs, rfl, sqT_sub F.w.inH h, by rw [r.length]; exact Nat.eq_of_beq_eq_true c, I0, H0, I, k, ρ, ds, ρ', F, r, e, q⟩
end

-- ### what is walked 
/-- J walks these data while I stands -/
abbrev Yld (G : Gh) (I : Hp) (J : It) (ds : List D) : Prop := Walk J ds.length (fun H => ∃ I1 k1, Sub I I1 ∧ WOk G I1 H k1) (fun i H x H' => ∀ I1 k1, Sub I I1 → WOk G I1 H k1 → ∃ I2 d, Step G I1 H I2 H' k1 ∧ ds[i]? = some d ∧ Rep G I2 x d)
def tDI (G : Gh) (f : SemL) : TI := fun σ H R => ∃ I0 H0 I k ρ ds k', FI G I0 H0 I H k σ ρ ∧ f ρ k = some (ds, k') ∧ ∀ I' H' J, Step G I H I' H' k' → Yld G I' J ds → R J H'
abbrev DI (G : Gh) (X : Cx) (tg e : Expr) (f : SemL) : Prop := PI X tg e (tDI G f)
theorem rep_at {G : Gh} {I : Hp} {vs : List V} {ds : List D} {i : Nat} {v : V} (r : RepL G I vs ds) (h : vs[i]? = some v) : ∃ d, ds[i]? = some d ∧ Rep G I v d := r.getV h
theorem yld_list {G : Gh} {I : Hp} {a : Addr} {vs : List V} {ds : List D} (h : I a = some (.lst vs)) (r : RepL G I vs ds) : Yld G I (Itl G.K a) ds := by
  have w := walk_list (K := G.K) (a := a) (xs := vs)
  rw [r.length] at w
  refine w.mono (fun H ⟨I1, k1, s, wk⟩ => SqL.of (wk.inH _ _ (s _ _ h))) fun i H x H' hi _ ⟨e1, e2⟩ I1 k1 s wk => ?_
  obtain ⟨d, h1, h2⟩ := rep_at r e2
  subst e1
  exact ⟨I1, d, Step.refl wk, h1, h2.sub s⟩
theorem yld_tup {G : Gh} {I : Hp} {a : Addr} {vs : List V} {ds : List D} (h : SqT G.K I a vs) (r : RepL G I vs ds) : Yld G I (Itt G.K a) ds := by
  have w := walk_tup (K := G.K) (a := a) (xs := vs)
  rw [r.length] at w
  refine w.mono (fun H ⟨I1, k1, s, wk⟩ => sqT_sub wk.inH (sqT_sub s h)) fun i H x H' hi _ ⟨e1, e2⟩ I1 k1 s wk => ?_
  obtain ⟨d, h1, h2⟩ := rep_at r e2
  subst e1
  exact ⟨I1, d, Step.refl wk, h1, h2.sub s⟩
/-- the items of a list or tuple -/
def D.items : D → Option (List D)
  | .tup xs => some xs
  | .lst xs => some xs
  | _ => none
def dItems (f : Sem) : SemL := fun ρ => M.bind (f ρ) fun x => M.lift x.items
section
variable {G : Gh} {X : Cx} {tg e : Expr} {p pos : Pos}
theorem di_seq {f : Sem} (hK : X.K = G.K) (he : DE G X e f) : DI G X tg e (dItems f) := by
  refine ⟨fun pins s σ H R J hq => ?_⟩
  obtain ⟨I0, H0, I, k, ρ, ds, k', F, e1, q⟩ := hq
  obtain ⟨x, k1, e2, e3⟩ := M.bind_some e1
  obtain ⟨e4, rfl⟩ := M.lift_some e3
  cases x <;> simp only [D.items] at e4 <;> cases e4
  · refine (pi_tup (tg := tg) he).run pins s σ H R J ⟨I0, H0, I, k, ρ, _, _, F, e2, fun I1 H1 v s1 r1 => ?_⟩
    cases r1 with
    | @tup a vs _ h r =>
      rw [hK]
      exact ⟨a, rfl, ⟨vs, sqT_sub s1.w.inH h⟩, q I1 H1 _ s1 (yld_tup h r)⟩
  · refine (pi_list (tg := tg) he).run pins s σ H R J ⟨I0, H0, I, k, ρ, _, _, F, e2, fun I1 H1 v s1 r1 => ?_⟩
    cases r1 with
    | @lst a vs _ h r =>
      rw [hK]
      exact ⟨a, rfl, ⟨vs, SqL.of (s1.w.inH _ _ h)⟩, q I1 H1 _ s1 (yld_list h r)⟩
/-- range(n), range(a, b) -/
def rangeD (lo : Int) (n : Nat) : List D := (List.range n).map fun i : Nat => .int (lo + i)
theorem yld_range {I : Hp} (lo : Int) (n : Nat) : Yld G I (Itr lo n) (rangeD lo n) := by
  have w := walk_range (lo := lo) (n := n)
  have hl : (rangeD lo n).length = n := by unfold rangeD; rw [List.length_map, List.length_range]
  rw [← hl] at w
  rw [hl] at w
  show Walk (Itr lo n) (rangeD lo n).length _ _
  rw [hl]
  refine w.mono (fun H _ => trivial) fun i H x H' hi _ ⟨e1, e2⟩ I1 k1 s wk => ?_
  subst e1 e2
  refine ⟨I1, .int (lo + (i : Nat)), Step.refl wk, ?_, .int _⟩
  unfold rangeD
  rw [List.getElem?_map, List.getElem?_range hi]
  rfl
def okR (i : Int) : Bool := decide (-(2 ^ 62) ≤ i) && decide (i < 2 ^ 62)
theorem okR_ok {i : Int} (h : okR i = true) : -(2 ^ 62) ≤ i ∧ i < 2 ^ 62 := by
  have := Bool.and_eq_true_iff.mp h
  exact ⟨of_decide_eq_true this.1, of_decide_eq_true this.2⟩
def rng : List D → Option (List D)
  | [.int j] => if okR j then some (rangeD 0 j.toNat) else none
  | [.int i, .int j] => if okR i && okR j then some (rangeD i (j - i).toNat) else none
  | _ => none
def dRng (f : SemL) : SemL := fun ρ => M.bind (f ρ) fun xs => M.lift (rng xs)
theorem di_range1 {a : Expr} {f : Sem} (hg : Gl X "range") (hm : X.mg "range" = none) (ha : DE G X a f) (hs : starEach [a] X.env = [(false, eval a X.env)]) : DI G X tg (.Call (.Name "range" p) [a] [] pos) (dRng (dCons f dNil)) :=
  PI.mono (pi_range1 hg hm (da_cons ha da_nil (by rw [hs]; rfl)) hs) fun σ H R hq => by
    obtain ⟨I0, H0, I, k, ρ, ds, k', F, e1, q⟩ := hq
    obtain ⟨x, k1, e2, e3⟩ := M.bind_some e1
    obtain ⟨e4, rfl⟩ := M.lift_some e3
    obtain ⟨y, k2, e5, e6⟩ := M.bind_some e2
    obtain ⟨z, k3, e7, e8⟩ := M.bind_some e6
    obtain ⟨rfl, rfl⟩ := M.pure_some e8
    cases e7
    refine ⟨I0, H0, I, k, ρ, [y], _, F, e2, fun I1 H1 vs s1 r1 => ?_⟩
    cases y <;> simp only [rng] at e4 <;> try cases e4
    rename_i j
    by_cases c : okR j = true
    · rw [if_pos c] at e4; cases e4
      cases r1 with
      | cons r rr =>
        cases rr
        cases r
        exact ⟨j, rfl, (okR_ok c).1, (okR_ok c).2, q I1 H1 _ s1 (yld_range 0 _)⟩
    · rw [if_neg c] at e4; cases e4
theorem di_range2 {a b : Expr} {f g : Sem} (hg : Gl X "range") (hm : X.mg "range" = none) (ha : DE G X a f) (hb : DE G X b g) (hs : starEach [a, b] X.env = [(false, eval a X.env), (false, eval b X.env)]) (hs2 : starEach [b] X.env = [(false, eval b X.env)]) :
    DI G X tg (.Call (.Name "range" p) [a, b] [] pos) (dRng (dCons f (dCons g dNil))) :=
  PI.mono (pi_range2 hg hm (da_cons ha (da_cons hb da_nil (by rw [hs2]; rfl)) (by rw [hs, hs2])) hs hs2) fun σ H R hq => by
    obtain ⟨I0, H0, I, k, ρ, ds, k', F, e1, q⟩ := hq
    obtain ⟨x, k1, e2, e3⟩ := M.bind_some e1
    obtain ⟨e4, rfl⟩ := M.lift_some e3
    obtain ⟨y, k2, e5, e6⟩ := M.bind_some e2
    obtain ⟨z, k3, e7, e8⟩ := M.bind_some e6
    obtain ⟨rfl, rfl⟩ := M.pure_some e8
    obtain ⟨y2, k4, e9, e10⟩ := M.bind_some e7
    obtain ⟨z2, k5, e11, e12⟩ := M.bind_some e10
    obtain ⟨rfl, rfl⟩ := M.pure_some e12
    cases e11
    refine ⟨I0, H0, I, k, ρ, [y, y2], _, F, e2, fun I1 H1 vs s1 r1 => ?_⟩
    cases y <;> cases y2 <;> simp only [rng] at e4 <;> try cases e4
    rename_i i j
    by_cases c : (okR i && okR j) = true
    · rw [if_pos c] at e4; cases e4
      obtain ⟨c1, c2⟩ := Bool.and_eq_true_iff.mp c
      cases r1 with
      | cons r rr =>
        cases rr with
        | cons r' rr =>
          cases rr
          cases r
          cases r'
          exact ⟨i, j, rfl, ⟨(okR_ok c1).1, (okR_ok c1).2, (okR_ok c2).1, (okR_ok c2).2⟩, q I1 H1 _ s1 (yld_range i _)⟩
    · rw [if_neg c] at e4; cases e4
end
end Sky

end
section
-- SkyG: zip, enumerate, comprehensions, by data. 
namespace Sky
open PySem PySem.Spec PyProof.Rows L2

-- ### pairs 
def pairD (x y : D) : D := .tup [x, y]
theorem yld_pair {G : Gh} {I : Hp} {J : It} {xs ys : List V} {ds es : List D} {n : Nat} (hn : n = min ds.length es.length) (rx : RepL G I xs ds) (ry : RepL G I ys es) {P : Hp → Prop}
    (w : Walk J n P (YPair (fun i => xs[i]?) (fun i => ys[i]?))) (hP : ∀ H I1 k1, Sub I I1 → WOk G I1 H k1 → P H) : Yld G I J (List.zipWith pairD ds es) := by
  have hl : (List.zipWith pairD ds es).length = n := by rw [List.length_zipWith, hn]
  show Walk J (List.zipWith pairD ds es).length _ _
  rw [hl]
  refine w.mono (fun H ⟨I1, k1, s, wk⟩ => hP H I1 k1 s wk) fun i H x H' hi _ ⟨T, a, b, e1, hT, e2, h1, h2⟩ I1 k1 s wk => ?_
  subst e1 e2
  obtain ⟨d, q1, r1⟩ := rx.getV h1
  obtain ⟨e, q2, r2⟩ := ry.getV h2
  obtain ⟨s2, rp⟩ := new_tup wk hT (.cons (r1.sub s) (.cons (r2.sub s) .nil))
  exact ⟨_, pairD d e, s2, by rw [List.getElem?_zipWith, q1, q2], rp⟩
theorem walk_zipT {K : PySem.W.Frag} {a b : Addr} {xs ys : List V} {n : Nat} (hn : n = min xs.length ys.length) : Walk (RZ.ItzT K a b) n (fun H => SqT K H a xs ∧ SqT K H b ys) (YPair (fun i => xs[i]?) (fun i => ys[i]?)) := by
  subst hn
  refine ⟨fun i _ hi q => ?_, fun _ q => ⟨xs, ys, q.1, q.2, by omega⟩, fun i H v H' _ q y => ?_⟩
  · have h1 : i < xs.length := by omega
    have h2 : i < ys.length := by omega
    exact ⟨xs, ys, xs[i], ys[i], q.1, q.2, by simp [h1], by simp [h2]⟩
  · obtain ⟨T, x, z, h1, h2, h3, h4, h5⟩ := y
    exact ⟨T, x, z, h1, h2, h3, h4 xs q.1, h5 ys q.2⟩
def zipD : List D → Option (List D)
  | [.tup xs, .tup ys] => some (List.zipWith pairD xs ys)
  | [.lst xs, .lst ys] => some (List.zipWith pairD xs ys)
  | _ => none
def dZip (f : SemL) : SemL := fun ρ => M.bind (f ρ) fun xs => M.lift (zipD xs)
def enumD (xs : List D) : List D := List.zipWith pairD (rangeD 0 xs.length) xs
def dEnum (f : Sem) : SemL := fun ρ => M.bind (f ρ) fun x => match x with
  | .lst xs => M.pure (enumD xs)
  | _ => M.fail
section
variable {G : Gh} {X : Cx} {e e2 : Expr} {p pos tpos : Pos} {elts : List Expr} {kk : Nat}
theorem di_zip {f : SemL} (hK : X.K = G.K) (hg : Gl X "zip") (hm : X.mg "zip" = none) (ha : DA G X [e, e2] f) (h : ∀ {ta : TA}, PA X [e, e2] ta → PI X (.Tuple elts kk tpos) (.Call (.Name "zip" p) [e, e2] [] pos) (RZ.iZipA X.K ta)) :
    DI G X (.Tuple elts kk tpos) (.Call (.Name "zip" p) [e, e2] [] pos) (dZip f) := PI.mono (h ha) fun σ H R hq => by
  obtain ⟨I0, H0, I, k, ρ, ds, k', F, e1, q⟩ := hq
  obtain ⟨x, k1, e2, e3⟩ := M.bind_some e1
  obtain ⟨e4, rfl⟩ := M.lift_some e3
  refine ⟨I0, H0, I, k, ρ, x, _, F, e2, fun I1 H1 vs s1 r1 => ?_⟩
  rw [hK]
  match x, r1, e4 with
  | [.tup xs, .tup ys], r1, e4 =>
    simp only [zipD] at e4; cases e4
    cases r1 with
    | cons h1 r1 =>
      cases r1 with
      | cons h2 r1 =>
        cases r1
        cases h1 with
        | @tup a vs _ h1 g1 =>
          cases h2 with
          | @tup b ws _ h2 g2 =>
            exact ⟨a, b, vs, ws, rfl, .inr ⟨sqT_sub s1.w.inH h1, sqT_sub s1.w.inH h2, q I1 H1 _ s1 (yld_pair rfl g1 g2 (walk_zipT (by rw [g1.length, g2.length])) fun H I2 k2 s w => ⟨sqT_sub w.inH (sqT_sub s h1), sqT_sub w.inH (sqT_sub s h2)⟩)⟩⟩
  | [.lst xs, .lst ys], r1, e4 =>
    simp only [zipD] at e4; cases e4
    cases r1 with
    | cons h1 r1 =>
      cases r1 with
      | cons h2 r1 =>
        cases r1
        cases h1 with
        | @lst a vs _ h1 g1 =>
          cases h2 with
          | @lst b ws _ h2 g2 =>
            exact ⟨a, b, vs, ws, rfl, .inl ⟨SqL.of (s1.w.inH _ _ h1), SqL.of (s1.w.inH _ _ h2), q I1 H1 _ s1 (yld_pair rfl g1 g2 (walk_zip (by rw [g1.length, g2.length])) fun H I2 k2 s w => ⟨SqL.of (w.inH _ _ (s _ _ h1)), SqL.of (w.inH _ _ (s _ _ h2))⟩)⟩⟩
theorem range_rep {I : Hp} (n : Nat) : ∀ lo : Int, RepL G I ((List.range n).map fun i : Nat => V.int (lo + i)) (rangeD lo n) := by
  intro lo
  unfold rangeD
  generalize List.range n = l
  induction l with
  | nil => exact .nil
  | cons a l ih => exact .cons (.int _) ih
theorem di_enum {f : Sem} (hK : X.K = G.K) (hg : Gl X "enumerate") (hm : X.mg "enumerate" = none) (ha : DE G X e f) (hs : starEach [e] X.env = [(false, eval e X.env)]) :
    DI G X (.Tuple elts kk tpos) (.Call (.Name "enumerate" p) [e] [] pos) (dEnum f) := PI.mono (pi_enum hg hm (da_cons ha da_nil (by rw [hs]; rfl)) hs) fun σ H R hq => by
  obtain ⟨I0, H0, I, k, ρ, ds, k', F, e1, q⟩ := hq
  obtain ⟨x, k1, e2, e3⟩ := M.bind_some e1
  cases x <;> try cases e3
  rename_i xs
  refine ⟨I0, H0, I, k, ρ, [.lst xs], k', F, by simp only [dCons, M.bind, e2, dNil, M.pure], fun I1 H1 vs s1 r1 => ?_⟩
  rw [hK]
  cases r1 with
  | cons h1 r1 =>
    cases r1
    cases h1 with
    | @lst a vs _ h1 g1 =>
      refine ⟨a, vs, rfl, SqL.of (s1.w.inH _ _ h1), q I1 H1 _ s1 (yld_pair (n := vs.length) (xs := (List.range xs.length).map fun i : Nat => V.int (0 + i)) (by unfold rangeD; rw [List.length_map, List.length_range, g1.length, Nat.min_self]) (range_rep _ 0) g1
        ((walk_enum (K := G.K) (a := a) (xs := vs)).mono (fun _ h => h) fun i H x H' hi _ ⟨T, u, z, e1, hT, e2, h1, h2⟩ => ⟨T, u, z, e1, hT, e2, ?_, h2⟩) fun H I2 k2 s w => SqL.of (w.inH _ _ (s _ _ h1)))⟩
      show ((List.range xs.length).map fun i : Nat => V.int (0 + i))[i]? = some u
      rw [List.getElem?_map, List.getElem?_range (by rw [← g1.length]; exact hi)]
      cases h1
      simp

-- ### comprehensions 
def lcLoop (t : Tg) (c : SemB) (f : Sem) (ρ : Env) : List D → M (List D)
  | [] => M.pure []
  | d :: ds => match t.put d ρ with
    | none => M.fail
    | some ρ' => M.bind (c ρ') fun b => match b with
      | true => M.bind (f ρ') fun x => M.bind (lcLoop t c f ρ ds) fun xs => M.pure (x :: xs)
      | false => lcLoop t c f ρ ds
def dLc (vs : List Nat) (it : SemL) (t : Tg) (c : SemB) (f : Sem) : Sem := fun ρ => M.bind (it ρ) fun ds => M.bind (lcLoop t c f (wipeE ρ vs) ds) fun xs => M.lift (if lim xs.length then some (.lst xs) else none)
def dTrue : SemB := fun _ k => some (true, k)
theorem Step.mut {I H I' H' : Hp} {k k' : Nat} {x : Addr} {o : HO} (w0 : WOk G I H k) (s : Step G I H I' H' k') (hx : H x = none) (hI : I' x = none) : Step G I H I' (upd H' x o) k' where
  w := ⟨fun a u e => by rw [upd_ne (fun z => by rw [z, hI] at e; cases e)]; exact s.w.inH a u e, by
    rcases w0.scr with ⟨ob, h⟩ | h
    · have ne := ne_of_none h hx
      have nd : G.da ≠ some G.sa := fun e => by have := (w0.drw _ e).2.2; rw [h] at this; cases this
      exact .inl ⟨ob, by rw [upd_ne ne]; exact s.same _ _ h nd⟩
    · exact .inr h, fun d hd' => by
      obtain ⟨h1, h2, h3⟩ := s.w.drw d hd'
      exact ⟨h1, h2, by rw [upd_ne (fun z => w0.ne hx (by rw [← z]; exact hd'))]; exact h3⟩⟩
  sub := s.sub
  new := s.new
  same := fun a u e q => by rw [upd_ne (ne_of_none e hx)]; exact s.same a u e q

theorem lcLoop_len {t : Tg} {c : SemB} {f : Sem} {ρ : Env} : ∀ {ds : List D} {k k' : Nat} {xs : List D}, lcLoop t c f ρ ds k = some (xs, k') → True := fun _ => trivial
theorem off_wipe {σ σ' : List (Option V)} {vs ss : List Nat} (h : ∀ i ∈ ss, i ∈ vs) (o : Off ss (L2.wipe σ vs) σ') : L2.wipe σ' vs = L2.wipe σ vs := by
  have wl : ∀ (τ : List (Option V)) (vs : List Nat) (j : Nat), (L2.wipe τ vs)[j]? = if j ∈ vs ∧ j < τ.length then some none else τ[j]? := by
    intro τ vs
    induction vs with
    | nil => intro j; simp [L2.wipe]
    | cons v vs ih =>
      intro j
      show ((L2.wipe τ vs).set v none)[j]? = _
      by_cases e : v = j
      · subst e
        by_cases q : v < τ.length
        · rw [List.getElem?_set_self (by rw [L2.wipe_length]; exact q)]
          simp [q]
        · rw [List.getElem?_eq_none (by rw [List.length_set, L2.wipe_length]; omega)]
          rw [if_neg (fun z => q z.2), List.getElem?_eq_none (by omega)]
      · rw [List.getElem?_set_ne e, ih j]
        simp [List.mem_cons, Ne.symm e]
  apply List.ext_getElem?
  intro j
  rw [wl, wl]
  have hl : σ'.length = σ.length := by rw [o.1, L2.wipe_length]
  rw [hl]
  by_cases hj : j ∈ vs ∧ j < σ.length
  · rw [if_pos hj, if_pos hj]
  · rw [if_neg hj, if_neg hj]
    by_cases q : j < σ.length
    · have hv : j ∉ vs := fun z => hj ⟨z, q⟩
      rw [o.2 j (fun z => hv (h j z)), wl, if_neg hj]
    · rw [List.getElem?_eq_none (by omega), List.getElem?_eq_none (by omega)]

/-- one turn of a comprehension's loop -/
theorem lcLoop_cons {t : Tg} {c : SemB} {f : Sem} {ρ : Env} {d : D} {ds : List D} {k k' : Nat} {xs : List D} (h : lcLoop t c f ρ (d :: ds) k = some (xs, k')) :
    ∃ ρ' b k1, t.put d ρ = some ρ' ∧ c ρ' k = some (b, k1) ∧ ((b = false ∧ lcLoop t c f ρ ds k1 = some (xs, k')) ∨ (b = true ∧ ∃ x k2 ys, f ρ' k1 = some (x, k2) ∧ lcLoop t c f ρ ds k2 = some (ys, k') ∧ xs = x :: ys)) := by
  simp only [lcLoop] at h
  cases e : t.put d ρ with
  | none => rw [e] at h; cases h
  | some ρ' =>
    rw [e] at h
    obtain ⟨b, k1, e1, h⟩ := M.bind_some h
    refine ⟨ρ', b, k1, rfl, e1, ?_⟩
    cases b with
    | false => exact .inl ⟨rfl, h⟩
    | true =>
      obtain ⟨x, k2, e2, h⟩ := M.bind_some h
      obtain ⟨ys, k3, e3, h⟩ := M.bind_some h
      obtain ⟨rfl, rfl⟩ := M.pure_some h
      exact .inr ⟨rfl, x, k2, ys, e2, e3, rfl⟩

theorem td_lc {vs : List Nat} {it : SemL} {t : Tg} {c : SemB} {f : Sem} {σ : List (Option V)} {H : Hp} {Q : VK} (hs : ∀ i ∈ t.slots, i ∈ vs) (hq : tD G (dLc vs it t c f) σ H Q) : tLc (tDI G it) (tDG G t) (tDB G c) (tD G f) vs σ H Q := by
  obtain ⟨I0, H0, I, k, ρ, d, k', F, e, q⟩ := hq
  obtain ⟨ds, k1, e1, e⟩ := M.bind_some e
  obtain ⟨xs, k2, e2, e⟩ := M.bind_some e
  obtain ⟨e3, rfl⟩ := M.lift_some e
  have hlim : lim xs.length = true := by
    by_cases z : lim xs.length = true
    · exact z
    · rw [if_neg z] at e3; cases e3
  rw [if_pos hlim] at e3
  cases e3
  refine ⟨I0, H0, I, k, ρ, ds, k1, F, e1, fun I1 H1 J s1 y Dn hD => ?_⟩
  have hwk := s1.w
  refine lc_it y (Pv := fun i H' => ∃ I2 k2 acc as rest, Step G I1 H1 I2 H' k2 ∧ I2 Dn = none ∧ H' Dn = some (.lst acc) ∧ RepL G I2 acc as ∧ lcLoop t c f (wipeE ρ vs) (ds.drop i) k2 = some (rest, k') ∧ as ++ rest = xs) ?_ ?_ ?_ ?_
  · refine ⟨I1, k1, [], [], xs, Step.mut hwk (Step.refl hwk) hD ?_, ?_, upd_same, .nil, e2, rfl⟩
    all_goals
      cases z : I1 Dn with
      | none => rfl
      | some u => have := hwk.inH _ _ z; rw [hD] at this; cases this
  · rintro i H' _ ⟨I2, k2, acc, as, rest, s2, _, _, _, _, _⟩
    exact ⟨I2, k2, s2.sub, s2.w⟩
  · rintro i x H' H2 hi ⟨I2, k2, acc, as, rest, s2, hID, hHD, ra, hl, hx⟩ hy
    obtain ⟨I3, d, s3, hd, rd⟩ := hy I2 k2 s2.sub s2.w
    have hdrop : ds.drop i = d :: ds.drop (i + 1) := by
      obtain ⟨h1, h2⟩ := List.getElem?_eq_some_iff.mp hd
      rw [← h2]; exact (List.drop_eq_getElem_cons h1)
    rw [hdrop] at hl
    obtain ⟨ρ', b, k3, p1, p2, p3⟩ := lcLoop_cons hl
    have dne : G.da ≠ some Dn := hwk.ne hD
    -- D's list through the steps
    have keepD : ∀ {I I' H H' : Hp} {k : Nat}, Step G I H I' H' k → I Dn = none → H Dn = some (.lst acc) → I' Dn = none ∧ H' Dn = some (.lst acc) := fun {I I' H H' k} s h1 h2 => by
      refine ⟨?_, s.same _ _ h2 dne⟩
      cases z : I' Dn with
      | none => rfl
      | some u =>
        rcases s.new _ _ z with w | w
        · rw [h1] at w; cases w
        · rw [h2] at w; cases w
    obtain ⟨hID3, hHD3⟩ := keepD s3 hID hHD
    refine ⟨I0, H0, I3, k2, wipeE ρ vs, d, ρ', (((F.step s1).step (s2.trans s3)).wipe vs), rd, p1, fun σ2 F2 o2 => ⟨off_wipe hs o2, ?_⟩⟩
    refine ⟨I0, H0, I3, k2, ρ', b, k3, F2, p2, fun I4 H4 s4 => ?_⟩
    obtain ⟨hID4, hHD4⟩ := keepD s4 hID3 hHD3
    rcases p3 with ⟨rfl, p3⟩ | ⟨rfl, z, k5, ys, p4, p5, p6⟩
    · refine iteF ⟨I4, k3, acc, as, rest, (s2.trans s3).trans s4, hID4, hHD4, (ra.sub s3.sub).sub s4.sub, p3, hx⟩
    · refine iteT ⟨I0, H0, I4, k3, ρ', z, k5, F2.step s4, p4, fun I5 H5 u s5 ru => ?_⟩
      obtain ⟨hID5, hHD5⟩ := keepD s5 hID4 hHD4
      refine ⟨acc, hHD5, ?_, I5, k5, acc ++ [u], as ++ [z], ys, ?_, hID5, upd_same, ?_, p5, by rw [← hx, p6]; simp⟩
      · have h1 := lim_lt hlim
        have h2 := ra.length
        have h3 : as.length ≤ xs.length := by rw [← hx, List.length_append]; omega
        omega
      · exact Step.mut hwk (((s2.trans s3).trans s4).trans s5) hD hID5
      · exact (((ra.sub s3.sub).sub s4.sub).sub s5.sub).append (.cons ru .nil)
  · rintro H' ⟨I2, k2, acc, as, rest, s2, hID, hHD, ra, hl, hx⟩
    rw [List.drop_length] at hl
    obtain ⟨rfl, rfl⟩ := M.pure_some hl
    rw [List.append_nil] at hx
    subst hx
    have s3 := Step.keep (o := .lst acc) s2 hD hID hHD (hwk.ne hD)
    exact q _ _ _ (s1.trans s3) (.lst upd_same (ra.sub fun a u e => by rw [upd_ne (fun z => by rw [z, hID] at e; cases e)]; exact e))
end
end Sky

end
section
-- SkyH: statements by data. 
namespace Sky
open PySem PySem.Spec PyProof.Rows L2

inductive Out where
  | nx (ρ : Env) | ret (d : D) | brk (ρ : Env) | cnt (ρ : Env)
abbrev SemS := Env → M Out
def EndOk (G : Gh) (I0 H0 I : Hp) (D : Ends) (k' : Nat) : Out → Prop
  | .nx ρ' => ∀ I' H' σ', FI G I0 H0 I' H' k' σ' ρ' → Sub I I' → D.nx σ' H'
  | .ret d => ∀ I' H' v, Step G I0 H0 I' H' k' → Rep G I' v d → D.rt v H'
  | .brk ρ' => ∀ I' H' σ', FI G I0 H0 I' H' k' σ' ρ' → Sub I I' → D.bk σ' H'
  | .cnt ρ' => ∀ I' H' σ', FI G I0 H0 I' H' k' σ' ρ' → Sub I I' → D.ct σ' H'
def tDS (G : Gh) (f : SemS) : TS := fun D σ H => ∃ I0 H0 I k ρ o k', FI G I0 H0 I H k σ ρ ∧ f ρ k = some (o, k') ∧ EndOk G I0 H0 I D k' o
abbrev DS (G : Gh) (X : Cx) (s : Stmt) (f : SemS) : Prop := PS X s (tDS G f)
abbrev DSs (G : Gh) (X : Cx) (s : List Stmt) (f : SemS) : Prop := PSs X s (tDS G f)
theorem EndOk.sub {G : Gh} {I0 H0 I I1 : Hp} {D : Ends} {k' : Nat} {o : Out} (s : Sub I I1) (h : EndOk G I0 H0 I D k' o) : EndOk G I0 H0 I1 D k' o := by
  cases o with
  | nx ρ => exact fun I' H' σ' F s' => h I' H' σ' F fun a o e => s' a o (s a o e)
  | ret d => exact h
  | brk ρ => exact fun I' H' σ' F s' => h I' H' σ' F fun a o e => s' a o (s a o e)
  | cnt ρ => exact fun I' H' σ' F s' => h I' H' σ' F fun a o e => s' a o (s a o e)

def sNext : SemS := fun ρ k => some (.nx ρ, k)
def sSeq (f g : SemS) : SemS := fun ρ => M.bind (f ρ) fun o => match o with
  | .nx ρ' => g ρ'
  | o => M.pure o
def sAsg (f : Sem) (t : Tg) : SemS := fun ρ => M.bind (f ρ) fun d => match t.put d ρ with
  | some ρ' => M.pure (.nx ρ')
  | none => M.fail
def sIf (c : SemB) (f g : SemS) : SemS := fun ρ => M.bind (c ρ) fun b => match b with | true => f ρ | false => g ρ
def sRet (f : Sem) : SemS := fun ρ => M.bind (f ρ) fun d => M.pure (.ret d)
def sRetN : SemS := fun _ k => some (.ret .non, k)
def sDrop (f : Sem) : SemS := fun ρ => M.bind (f ρ) fun _ => M.pure (.nx ρ)
def sFail : SemS := fun _ _ => none
def sBrk : SemS := fun ρ k => some (.brk ρ, k)
def sCnt : SemS := fun ρ k => some (.cnt ρ, k)
def forLoop (t : Tg) (b : SemS) : List D → Env → M Out
  | [], ρ => M.pure (.nx ρ)
  | d :: ds, ρ => match t.put d ρ with
    | none => M.fail
    | some ρ1 => M.bind (b ρ1) fun o => match o with
      | .nx ρ2 => forLoop t b ds ρ2
      | .cnt ρ2 => forLoop t b ds ρ2
      | .brk ρ2 => M.pure (.nx ρ2)
      | .ret d => M.pure (.ret d)
def sFor (it : SemL) (t : Tg) (b : SemS) : SemS := fun ρ => M.bind (it ρ) fun ds => forLoop t b ds ρ
def whLoop (c : SemB) (b : SemS) : Nat → Env → M Out
  | 0, _ => M.fail
  | n + 1, ρ => M.bind (c ρ) fun q => match q with
    | false => M.pure (.nx ρ)
    | true => M.bind (b ρ) fun o => match o with
      | .nx ρ2 => whLoop c b n ρ2
      | .cnt ρ2 => whLoop c b n ρ2
      | .brk ρ2 => M.pure (.nx ρ2)
      | .ret d => M.pure (.ret d)
def sWh (fuel : Env → Nat) (c : SemB) (b : SemS) : SemS := fun ρ => whLoop c b (fuel ρ) ρ
section
variable {G : Gh} {X : Cx} {pos : Pos}
theorem ds_fail {s : Stmt} : DS G X s sFail := PS.mono ps_never fun D σ H hq => by
  obtain ⟨I0, H0, I, k, ρ, o, k', F, e, q⟩ := hq
  cases e
theorem dss_nil : DSs G X [] sNext := PSs.mono pss_nil fun D σ H hq => by
  obtain ⟨I0, H0, I, k, ρ, o, k', F, e, q⟩ := hq
  cases e
  exact q I H σ F fun _ _ e => e
theorem ds_pass : DS G X (.Pass pos) sNext := PS.mono ps_pass fun D σ H hq => by
  obtain ⟨I0, H0, I, k, ρ, o, k', F, e, q⟩ := hq
  cases e
  exact q I H σ F fun _ _ e => e
theorem ds_cnt : DS G X (.Continue pos) sCnt := PS.mono ps_continue fun D σ H hq => by
  obtain ⟨I0, H0, I, k, ρ, o, k', F, e, q⟩ := hq
  cases e
  exact q I H σ F fun _ _ e => e
theorem ds_brk : DS G X (.Break pos) sBrk := PS.mono ps_break fun D σ H hq => by
  obtain ⟨I0, H0, I, k, ρ, o, k', F, e, q⟩ := hq
  cases e
  exact q I H σ F fun _ _ e => e
theorem td_seq {f g : SemS} {D : Ends} {σ : List (Option V)} {H : Hp} (hq : tDS G (sSeq f g) D σ H) : tSeq (tDS G f) (tDS G g) D σ H := by
  obtain ⟨I0, H0, I, k, ρ, o, k', F, e, q⟩ := hq
  obtain ⟨o1, k1, e1, e2⟩ := M.bind_some e
  refine ⟨I0, H0, I, k, ρ, o1, k1, F, e1, ?_⟩
  cases o1 with
  | nx ρ1 => exact fun I' H' σ' F' s' => ⟨I0, H0, I', k1, ρ1, o, k', F', e2, q.sub s'⟩
  | ret d => obtain ⟨rfl, rfl⟩ := M.pure_some e2; exact q
  | brk ρ1 => obtain ⟨rfl, rfl⟩ := M.pure_some e2; exact q
  | cnt ρ1 => obtain ⟨rfl, rfl⟩ := M.pure_some e2; exact q
theorem dss_cons {s : Stmt} {ss : List Stmt} {f g : SemS} (h : DS G X s f) (t : DSs G X ss g) : DSs G X (s :: ss) (sSeq f g) := PSs.mono (pss_cons h t) fun _ _ _ hq => td_seq hq
theorem ds_asg {tg e : Expr} {f : Sem} {t : Tg} (he : DE G X e f) (hg : DG G X tg t) (hs : swapsWithSole [tg] e pos.line X.env = pure false) (hw : swappedStores [tg] e X.env = pure none) (h1 : (assignEach [tg] X.env).map (·.2) = [assign tg X.env]) :
    DS G X (.Assign [tg] e pos) (sAsg f t) := PS.mono (ps_asg he hg hs hw h1) fun D σ H hq => by
  obtain ⟨I0, H0, I, k, ρ, o, k', F, e, q⟩ := hq
  obtain ⟨d, k1, e1, e2⟩ := M.bind_some e
  cases c : t.put d ρ with
  | none => rw [c] at e2; cases e2
  | some ρ1 =>
    rw [c] at e2
    obtain ⟨rfl, rfl⟩ := M.pure_some e2
    exact ⟨I0, H0, I, k, ρ, d, _, F, e1, fun I1 H1 v s1 r1 => ⟨I0, H0, I1, _, ρ, d, ρ1, F.step s1, r1, c, fun σ' F' _ => q I1 H1 σ' F' s1.sub⟩⟩
/-- x = [.. for ..] on one line -/
theorem ds_asgL {e : Expr} {x : Str} {py : Pos} {t : TE} {f : Sem} {i : Nat} (h : PS X (.Assign [.Name x py] e pos) (tAsg t (gName i))) (w : ∀ σ H Q, tD G f σ H Q → t σ H Q) : DS G X (.Assign [.Name x py] e pos) (sAsg f (tgName i)) := PS.mono h fun D σ H hq => by
  obtain ⟨I0, H0, I, k, ρ, o, k', F, e, q⟩ := hq
  obtain ⟨d, k1, e1, e2⟩ := M.bind_some e
  obtain ⟨rfl, rfl⟩ := M.pure_some e2
  exact w σ H _ ⟨I0, H0, I, k, ρ, d, _, F, e1, fun I1 H1 v s1 r1 => q I1 H1 _ ((F.step s1).set i r1) s1.sub⟩
theorem ds_if {c : Expr} {a b : List Stmt} {t : SemB} {f g : SemS} (hc : DT G X c t) (ha : DSs G X a f) (hb : DSs G X b g) : DS G X (.If c a b pos) (sIf t f g) := PS.mono (ps_if hc ha hb) fun D σ H hq => by
  obtain ⟨I0, H0, I, k, ρ, o, k', F, e, q⟩ := hq
  obtain ⟨x, k1, e1, e⟩ := M.bind_some e
  refine ⟨I0, H0, I, k, ρ, x, k1, F, e1, fun I1 H1 s1 => ?_⟩
  cases x with
  | true => exact iteT ⟨I0, H0, I1, k1, ρ, o, k', F.step s1, e, q.sub s1.sub⟩
  | false => exact iteF ⟨I0, H0, I1, k1, ρ, o, k', F.step s1, e, q.sub s1.sub⟩
theorem ds_ret {e : Expr} {f : Sem} (h : DE G X e f) : DS G X (.Return (some e) pos) (sRet f) := PS.mono (ps_ret h) fun D σ H hq => by
  obtain ⟨I0, H0, I, k, ρ, o, k', F, e, q⟩ := hq
  obtain ⟨d, k1, e1, e2⟩ := M.bind_some e
  obtain ⟨rfl, rfl⟩ := M.pure_some e2
  exact ⟨I0, H0, I, k, ρ, d, _, F, e1, fun I1 H1 v s1 r1 => q I1 H1 v (F.st.trans s1) r1⟩
theorem ds_retN : DS G X (.Return none pos) sRetN := PS.mono ps_retN fun D σ H hq => by
  obtain ⟨I0, H0, I, k, ρ, o, k', F, e, q⟩ := hq
  cases e
  exact q I H _ F.st .non
theorem ds_expr {e : Expr} {f : Sem} (h : DE G X e f) (hs : swapsWith e none pos.line X.env = pure false) : DS G X (.Expr e pos) (sDrop f) := PS.mono (ps_expr h hs) fun D σ H hq => by
  obtain ⟨I0, H0, I, k, ρ, o, k', F, e, q⟩ := hq
  obtain ⟨d, k1, e1, e2⟩ := M.bind_some e
  obtain ⟨rfl, rfl⟩ := M.pure_some e2
  exact ⟨I0, H0, I, k, ρ, d, _, F, e1, fun I1 H1 v s1 r1 => q I1 H1 σ (F.step s1) s1.sub⟩
-- ### loops 
theorem td_for {it : SemL} {t : Tg} {b : SemS} {D : Ends} {σ : List (Option V)} {H : Hp} (hq : tDS G (sFor it t b) D σ H) : tFor (tDI G it) (tDG G t) (tDS G b) D σ H := by
  obtain ⟨I0, H0, I, k, ρ, o, k', F, e, q⟩ := hq
  obtain ⟨ds, k1, e1, e2⟩ := M.bind_some e
  refine ⟨I0, H0, I, k, ρ, ds, k1, F, e1, fun I1 H1 J s1 y => ?_⟩
  refine for_it y (Pv := fun i σ' H' => ∃ I2 k2 ρ2, FI G I0 H0 I2 H' k2 σ' ρ2 ∧ Sub I1 I2 ∧ forLoop t b (ds.drop i) ρ2 k2 = some (o, k')) ⟨I1, k1, ρ, F.step s1, fun _ _ e => e, e2⟩ ?_ ?_ ?_
  · rintro i σ' H' _ ⟨I2, k2, ρ2, F2, s2, _⟩
    exact ⟨I2, k2, s2, F2.w⟩
  · rintro i x σ2 H2 H3 hi ⟨I2, k2, ρ2, F2, s2, hl⟩ hy
    obtain ⟨I3, d, s3, hd, rd⟩ := hy I2 k2 s2 F2.w
    have hdrop : ds.drop i = d :: ds.drop (i + 1) := by
      obtain ⟨h1, h2⟩ := List.getElem?_eq_some_iff.mp hd
      rw [← h2]; exact (List.drop_eq_getElem_cons h1)
    rw [hdrop] at hl
    simp only [forLoop] at hl
    cases c : t.put d ρ2 with
    | none => rw [c] at hl; cases hl
    | some ρ3 =>
      rw [c] at hl
      obtain ⟨o1, k3, e3, e4⟩ := M.bind_some hl
      refine ⟨I0, H0, I3, k2, ρ2, d, ρ3, F2.step s3, rd, c, fun σ3 F3 _ => ⟨I0, H0, I3, k2, ρ3, o1, k3, F3, e3, ?_⟩⟩
      have s13 : Sub I1 I3 := fun a u e => s3.sub a u (s2 a u e)
      cases o1 with
      | nx ρ4 => exact fun I' H' σ' F' s' => ⟨I', k3, ρ4, F', fun a u e => s' a u (s13 a u e), e4⟩
      | cnt ρ4 => exact fun I' H' σ' F' s' => ⟨I', k3, ρ4, F', fun a u e => s' a u (s13 a u e), e4⟩
      | ret d => obtain ⟨rfl, rfl⟩ := M.pure_some e4; exact q
      | brk ρ4 =>
        obtain ⟨rfl, rfl⟩ := M.pure_some e4
        exact fun I' H' σ' F' s' => q I' H' σ' F' fun a u e => s' a u (s13 a u (s1.sub a u e))
  · rintro σ2 H2 ⟨I2, k2, ρ2, F2, s2, hl⟩
    rw [List.drop_length] at hl
    obtain ⟨rfl, rfl⟩ := M.pure_some hl
    exact q I2 H2 σ2 F2 fun a u e => s2 a u (s1.sub a u e)
theorem ds_for {tg iter : Expr} {body : List Stmt} {it : SemL} {t : Tg} {b : SemS} (hp : PassesOwn (model X.prog X.w) X.A X.env X.xe) (hc : X.calm = true) (hi : DI G X tg iter it) (hg : DG G X tg t) (hb : DSs G X body b) (hs : ∀ x, foldedSetIterable iter X.env x = pure x) :
    DS G X (.For tg iter body [] pos) (sFor it t b) := PS.mono (ps_for hp hc hi hg hb hs) fun _ _ _ h => td_for h
theorem ds_wh {c : Expr} {body : List Stmt} {t : SemB} {b : SemS} (fuel : Env → Nat) (hp : PassesOwn (model X.prog X.w) X.A X.env X.xe) (hc : DT G X c t) (hb : DSs G X body b) : DS G X (.While c body [] pos) (sWh fuel t b) := PS.mono (ps_while hp hc hb) fun D σ H hq => by
  obtain ⟨I0, H0, I, k, ρ, o, k', F, e, q⟩ := hq
  refine ⟨fun m σ' H' => ∃ I2 k2 ρ2, FI G I0 H0 I2 H' k2 σ' ρ2 ∧ Sub I I2 ∧ whLoop t b m ρ2 k2 = some (o, k'), ⟨fuel ρ, I, k, ρ, F, fun _ _ e => e, e⟩, ?_⟩
  rintro m σ2 H2 ⟨I2, k2, ρ2, F2, s2, hl⟩
  cases m with
  | zero => cases hl
  | succ n =>
    simp only [whLoop] at hl
    obtain ⟨x, k3, e3, e4⟩ := M.bind_some hl
    refine ⟨I0, H0, I2, k2, ρ2, x, k3, F2, e3, fun I3 H3 s3 => ?_⟩
    have s13 : Sub I I3 := fun a u e => s3.sub a u (s2 a u e)
    cases x with
    | false =>
      obtain ⟨rfl, rfl⟩ := M.pure_some e4
      exact iteF (q I3 H3 σ2 (F2.step s3) s13)
    | true =>
      obtain ⟨o1, k5, e5, e6⟩ := M.bind_some e4
      refine iteT ⟨fun σ' H' => ∃ I' k' ρ', FI G I0 H0 I' H' k' σ' ρ' ∧ Sub I I' ∧ _, fun σ' H' h => ⟨n, Nat.lt_succ_self n, h⟩, I0, H0, I3, k3, ρ2, o1, k5, F2.step s3, e5, ?_⟩
      cases o1 with
      | nx ρ4 => exact fun I' H' σ' F' s' => ⟨I', k5, ρ4, F', fun a u e => s' a u (s13 a u e), e6⟩
      | cnt ρ4 => exact fun I' H' σ' F' s' => ⟨I', k5, ρ4, F', fun a u e => s' a u (s13 a u e), e6⟩
      | ret d => obtain ⟨rfl, rfl⟩ := M.pure_some e6; exact q
      | brk ρ4 =>
        obtain ⟨rfl, rfl⟩ := M.pure_some e6
        exact fun I' H' σ' F' s' => q I' H' σ' F' fun a u e => s' a u (s13 a u e)
-- ### a, b = x, y 
def sPar2 (i j : Nat) (f g : Sem) : SemS := fun ρ => M.bind (f ρ) fun x => M.bind (g ρ) fun y => M.pure (.nx ((ρ.set i (.val x)).set j (.val y)))
def sPar3 (i j l : Nat) (f g h : Sem) : SemS := fun ρ => M.bind (f ρ) fun x => M.bind (g ρ) fun y => M.bind (h ρ) fun z => M.pure (.nx (((ρ.set i (.val x)).set j (.val y)).set l (.val z)))
theorem ds_par2 {st : Stmt} {i j : Nat} {f g : Sem} (h : PS X st (tPar i j (tDL G (dCons f (dCons g dNil))))) : DS G X st (sPar2 i j f g) := PS.mono h fun D σ H hq => by
  obtain ⟨I0, H0, I, k, ρ, o, k', F, e, q⟩ := hq
  obtain ⟨x, k1, e1, e⟩ := M.bind_some e
  obtain ⟨y, k2, e2, e⟩ := M.bind_some e
  obtain ⟨rfl, rfl⟩ := M.pure_some e
  refine ⟨I0, H0, I, k, ρ, [x, y], k', F, by simp only [dCons, M.bind, e1, e2, dNil, M.pure], fun I1 H1 vs s1 r1 => ?_⟩
  cases r1 with
  | cons r r1 =>
    cases r1 with
    | cons r' r1 =>
      cases r1
      exact ⟨_, _, rfl, q I1 H1 _ (((F.step s1).set i r).set j r') s1.sub⟩
theorem ds_par3 {st : Stmt} {i j l : Nat} {f g h : Sem} (hh : PS X st (tPar3 i j l (tDL G (dCons f (dCons g (dCons h dNil)))))) : DS G X st (sPar3 i j l f g h) := PS.mono hh fun D σ H hq => by
  obtain ⟨I0, H0, I, k, ρ, o, k', F, e, q⟩ := hq
  obtain ⟨x, k1, e1, e⟩ := M.bind_some e
  obtain ⟨y, k2, e2, e⟩ := M.bind_some e
  obtain ⟨z, k3, e3, e⟩ := M.bind_some e
  obtain ⟨rfl, rfl⟩ := M.pure_some e
  refine ⟨I0, H0, I, k, ρ, [x, y, z], k', F, by simp only [dCons, M.bind, e1, e2, e3, dNil, M.pure], fun I1 H1 vs s1 r1 => ?_⟩
  cases r1 with
  | cons r r1 =>
    cases r1 with
    | cons r' r1 =>
      cases r1 with
      | cons r'' r1 =>
        cases r1
        exact ⟨_, _, _, rfl, q I1 H1 _ ((((F.step s1).set i r).set j r').set l r'') s1.sub⟩
end
end Sky

end
section
-- SkyI: def bodies, __init__ bodies, attributes laid, own lists. 
namespace Sky
open PySem PySem.Spec PyProof.Rows L2

-- ### a def's body 
def startE (n : Nat) (ds : List D) : Env := ds.map .val ++ List.replicate (n - ds.length) .no
def runB (n : Nat) (B : SemS) : Fn := fun ds k => match B (startE n ds) k with
  | some (.nx _, k') => some (.non, k')
  | some (.ret d, k') => some (d, k')
  | _ => none
abbrev cxB (P : Program) (w : World) (K : PySem.W.Frag) (mg : Str → Option Value) (base : Heap) (N : List Str) (qual : Str) (scope : Scope) (f : Addr) (cd : Value) (A : Around) (outer : List PySem.Env) (s : Shared) (H : Hp) (E : XK) : Cx :=
  (cxOf CX0 P w K mg base N qual scope f cd A outer s H E).nox
theorem start_get {N : List Str} {G : Gh} {I : Hp} {vs : List V} {ds : List D} (r : RepL G I vs ds) {i : Nat} {d : D} (h : (startE N.length ds)[i]? = some (.val d)) : ∃ v, (L2.start N vs)[i]? = some (some v) ∧ Rep G I v d := by
  unfold startE at h
  unfold L2.start
  by_cases q : i < ds.length
  · rw [List.getElem?_append_left (by simpa using q), List.getElem?_map] at h
    cases e : ds[i]? with
    | none => rw [e] at h; cases h
    | some a =>
      rw [e] at h; cases h
      obtain ⟨v, h1, h2⟩ := r.get e
      refine ⟨v, ?_, h2⟩
      rw [List.getElem?_append_left (by rw [List.length_map, r.length]; exact q), List.getElem?_map, h1]; rfl
  · rw [List.getElem?_append_right (by simpa using q), List.getElem?_replicate] at h
    split at h <;> cases h
theorem start_val {n : Nat} {ds : List D} {i : Nat} {s : Slot} (h : (startE n ds)[i]? = some s) : s = .no ∨ ∃ d, s = .val d := by
  unfold startE at h
  by_cases q : i < ds.length
  · rw [List.getElem?_append_left (by simpa using q), List.getElem?_map] at h
    cases e : ds[i]? with
    | none => rw [e] at h; cases h
    | some a => rw [e] at h; cases h; exact .inr ⟨_, rfl⟩
  · rw [List.getElem?_append_right (by simpa using q), List.getElem?_replicate] at h
    split at h
    · cases h; exact .inl rfl
    · cases h
theorem FI_start {G : Gh} {I H : Hp} {k : Nat} {N : List Str} {vs : List V} {ds : List D} (w : WOk G I H k) (r : RepL G I vs ds) (hl : vs.length ≤ N.length) : FI G I H I H k (L2.start N vs) (startE N.length ds) where
  st := Step.refl w
  len := by simp [L2.start, startE, r.length]
  val := fun i d h => start_get r h
  own := fun i d h => by rcases start_val h with e | ⟨_, e⟩ <;> cases e
  dis := fun i j d e a h => by rcases start_val h with e | ⟨_, e⟩ <;> cases e
  me := fun i c ds h => by rcases start_val h with e | ⟨_, e⟩ <;> cases e
  one := fun i j c e ds es h => by rcases start_val h with e | ⟨_, e⟩ <;> cases e
section
variable {P : Program} {w : World} {K : PySem.W.Frag} {mg : Str → Option Value} {base : Heap} {x qual : Str} {params : Arguments} {body : List Stmt} {scope : Scope} {f : Addr} {fd : FuncData} {N ps : List Str} {k : Nat} {G : Gh} {B : SemS}
theorem fn_data (F : FunD K x qual params body scope [] [] f fd) (S : FnScope N ps scope)
    (hb : ∀ da me cdv A outer s H E, Room k (A.deeper (envOfC qual scope s.heap.objs.size f cdv)) → DSs { G with da := da, me := me } (cxB P w K mg base N qual scope f cdv A outer s H E) body B) :
    FnOk P w K mg base CX0 (k + 1) f fd ps (spM G ps.length (runB N.length B)) := by
  refine F.ok S (fun vs H Q E h => h.1) fun cdv A outer s H vs Q E hr h => ?_
  obtain ⟨hl, da, me, I, k1, ds, d, k', w1, r, e, q⟩ := h
  have hpl : ps.length ≤ N.length := by have := congrArg List.length S.pre; rw [List.length_take] at this; omega
  refine ⟨_, PSs.nox (hb da me cdv A outer s H E hr), I, H, I, k1, startE N.length ds, ?_⟩
  unfold runB at e
  split at e
  · rename_i ρ k2 e1
    cases e
    exact ⟨_, _, FI_start w1 r (by omega), e1, fun I' H' σ' F' _ => q I' H' .non F'.st .non⟩
  · rename_i d1 k2 e1
    cases e
    exact ⟨_, _, FI_start w1 r (by omega), e1, fun I' H' v s1 r1 => q I' H' v s1 r1⟩
  · cases e
end

-- ### an __init__'s body 
mutual
theorem Rep.me {G : Gh} {m : Option (Addr × Addr × Addr)} {I : Hp} : ∀ {v : V} {d : D}, Rep { G with me := m } I v d → Rep G I v d
  | _, _, .non => .non
  | _, _, .bl b => .bl b
  | _, _, .int i => .int i
  | _, _, .str x => .str x
  | _, _, .tup h r => .tup h (r.me)
  | _, _, .lst h r => .lst h (r.me)
  | _, _, .ins h hc hl r => .ins h hc hl (r.me)
  | _, _, .dK h hk r => .dK h hk (r.me)
  | _, _, .dT h hk r => .dT h hk (r.me)
  | _, _, .scr => .scr
  | _, _, .drw h => .drw h
theorem RepL.me {G : Gh} {m : Option (Addr × Addr × Addr)} {I : Hp} : ∀ {v : List V} {d : List D}, RepL { G with me := m } I v d → RepL G I v d
  | _, _, .nil => .nil
  | _, _, .cons h t => .cons (h.me) (t.me)
end
theorem WOk.me {G : Gh} {m : Option (Addr × Addr × Addr)} {I H : Hp} {k : Nat} (w : WOk { G with me := m } I H k) : WOk G I H k := ⟨w.1, w.2, w.3⟩
theorem Step.me {G : Gh} {m : Option (Addr × Addr × Addr)} {I H I' H' : Hp} {k : Nat} (s : Step { G with me := m } I H I' H' k) : Step G I H I' H' k := ⟨s.1.me, s.2, s.3, s.4⟩
def startI (n : Nat) (c : Cn) (ds : List D) : Env := .me c [] :: startE (n - 1) ds
def runI (n : Nat) (c : Cn) (B : SemS) : FnI := fun ds k => match B (startI n c ds) k with
  | some (.nx ρ, k') => (match ρ[0]? with
    | some (Slot.me c' fs) => if c' = c then (if fs.length = c.fields.length then some (fs, k') else none) else none
    | _ => none)
  | _ => none
theorem FI_startI {G : Gh} {I H : Hp} {k : Nat} {N : List Str} {x dx C : Addr} {c : Cn} {vs : List V} {ds : List D} (w : WOk G I H k) (r : RepL G I vs ds) (hx : H x = none) (hd : H dx = none) (ne : dx ≠ x) (hC : G.cls c = some C) (hl : vs.length + 1 ≤ N.length) :
    FI { G with me := some (x, dx, C) } I H I (upd (upd H dx (.own x)) x (.ins C dx [])) k (L2.start N (.ref x :: vs)) (startI N.length c ds) := by
  obtain ⟨n0, N, rfl⟩ : ∃ n0 N', N = n0 :: N' := by
    cases N with
    | nil => simp at hl
    | cons a b => exact ⟨a, b, rfl⟩
  have nx : ∀ a o, H a = some o → a ≠ x := fun a o e q => by subst q; rw [hx] at e; cases e
  have nd : ∀ a o, H a = some o → a ≠ dx := fun a o e q => by subst q; rw [hd] at e; cases e
  have kp : ∀ a o, H a = some o → upd (upd H dx (.own x)) x (.ins C dx []) a = some o := fun a o e => by rw [upd_ne (nx a o e), upd_ne (nd a o e)]; exact e
  have r' : RepL { G with me := some (x, dx, C) } I vs ds := RepL.me (G := { G with me := some (x, dx, C) }) (m := G.me) r
  have ix : I x = none := by
    cases q : I x with
    | none => rfl
    | some o => have := w.inH x o q; rw [hx] at this; cases this
  have dne : G.da ≠ some x := w.ne hx
  refine ⟨⟨⟨fun a o e => kp a o (w.inH a o e), w.scr.sub fun o e => kp _ o e, fun d hd' => ?_⟩, fun a o e => e, fun a o e => .inl e, fun a o e _ => kp a o e⟩, ?_, ?_, ?_, ?_, ?_, ?_⟩
  · obtain ⟨h1, h2, h3⟩ := w.drw d hd'
    exact ⟨h1, h2, kp _ _ h3⟩
  · show (L2.start (n0 :: N) (.ref x :: vs)).length = (startI (n0 :: N).length c ds).length
    simp [L2.start, startI, startE, r.length]
  · intro i d h
    cases i with
    | zero => simp [startI] at h
    | succ i =>
      obtain ⟨v, h1, h2⟩ := start_get (N := N) r' (i := i) (d := d) (by simpa [startI] using h)
      refine ⟨v, ?_, h2⟩
      have e2 : L2.start (n0 :: N) (V.ref x :: vs) = some (.ref x) :: L2.start N vs := by simp [L2.start]
      rw [e2]
      simpa using h1
  · intro i d h
    cases i with
    | zero => simp [startI] at h
    | succ i => rcases start_val (n := N.length) (ds := ds) (by simpa [startI] using h) with e | ⟨_, e⟩ <;> cases e
  · intro i j d e a h
    cases i with
    | zero => simp [startI] at h
    | succ i => rcases start_val (n := N.length) (ds := ds) (by simpa [startI] using h) with e | ⟨_, e⟩ <;> cases e
  · intro i c' fs h
    cases i with
    | zero =>
      simp [startI] at h
      obtain ⟨rfl, rfl⟩ := h
      exact ⟨x, dx, C, [], rfl, by simp [L2.start], by rw [upd_same]; simp, hC, Nat.zero_le _, .nil, ix, hx, dne⟩
    | succ i => rcases start_val (n := N.length) (ds := ds) (by simpa [startI] using h) with e | ⟨_, e⟩ <;> cases e
  · intro i j c1 c2 d1 d2 h1 h2
    cases i with
    | zero =>
      cases j with
      | zero => rfl
      | succ j => rcases start_val (n := N.length) (ds := ds) (by simpa [startI] using h2) with e | ⟨_, e⟩ <;> cases e
    | succ i => rcases start_val (n := N.length) (ds := ds) (by simpa [startI] using h1) with e | ⟨_, e⟩ <;> cases e
section
variable {P : Program} {w : World} {K : PySem.W.Frag} {mg : Str → Option Value} {base : Heap} {x qual : Str} {params : Arguments} {body : List Stmt} {scope : Scope} {f : Addr} {fd : FuncData} {N ps : List Str} {k n : Nat} {G : Gh} {B : SemS} {c : Cn}
theorem fn_init (F : FunD K x qual params body scope [] [] f fd) (S : FnScope N ps scope) (hn : n + 1 = ps.length)
    (hb : ∀ da me cdv A outer s H E, Room k (A.deeper (envOfC qual scope s.heap.objs.size f cdv)) → DSs { G with da := da, me := me } (cxB P w K mg base N qual scope f cdv A outer s H E) body B) :
    FnOk P w K mg base CX0 (k + 1) f fd ps (spI G c n (runI N.length c B)) := by
  refine F.ok S (fun vs H Q E h => by rw [h.1, hn]) fun cdv A outer s H vs Q E hr h => ?_
  obtain ⟨hl, da, me, I, H1, k1, ds, fs, k', x, dx, C, as, rfl, rfl, hx, hd, ne, hC, w1, r, e, el, q⟩ := h
  have hpl : ps.length ≤ N.length := by have := congrArg List.length S.pre; rw [List.length_take] at this; omega
  have hl2 : as.length + 1 ≤ N.length := by simp at hl; omega
  refine ⟨_, PSs.nox (hb da (some (x, dx, C)) cdv A outer s _ E hr), I, H1, I, k1, startI N.length c ds, ?_⟩
  unfold runI at e
  split at e
  · rename_i ρ k2 e1
    split at e
    · rename_i c' fs' e2
      split at e
      · rename_i hc
        split at e
        · rename_i hfl
          cases e
          subst hc
          refine ⟨_, _, FI_startI (G := { G with da := da, me := me }) w1 r hx hd ne hC hl2, e1, fun I' H' σ' F' _ => ?_⟩
          obtain ⟨x', dx', C', vs', h1, h2, h3, h4, h5, h6, h7, h8, h9⟩ := F'.me 0 c' fs e2
          cases h1
          exact q I' H' vs' (Step.me (G := { G with da := da, me := me }) F'.st) h7 h3 (RepL.me (G := { G with da := da, me := me }) h6)
        · cases e
      · cases e
    · cases e
  · cases e
end
end Sky

end
section
-- SkyJ: attributes laid, own lists, isinstance. 
namespace Sky
open PySem PySem.Spec PyProof.Rows L2

section
variable {G : Gh} {I0 H0 I H : Hp} {k : Nat} {σ : List (Option V)} {ρ : Env}
theorem Step.write {x : Addr} {o : HO} (s : Step G I0 H0 I H k) (hI : I x = none) (h0 : H0 x = none) (hd : G.da ≠ some x) (hf : ∀ u l, H x ≠ some (.frz u l)) : Step G I0 H0 I (upd H x o) k where
  w := ⟨fun a u e => by
      have ne : a ≠ x := fun z => by rw [z, hI] at e; cases e
      rw [upd_ne ne]; exact s.w.inH a u e, by
      rcases s.w.scr with ⟨u, h⟩ | h
      · refine .inl ⟨u, ?_⟩
        have ne : G.sa ≠ x := fun z => by rw [z] at h; exact hf _ _ h
        rw [upd_ne ne]; exact h
      · exact .inr h, fun d h => by
      obtain ⟨h1, h2, h3⟩ := s.w.drw d h
      have ne : d ≠ x := fun z => hd (by rw [← z]; exact h)
      exact ⟨h1, h2, by rw [upd_ne ne]; exact h3⟩⟩
  sub := s.sub
  new := s.new
  same := fun a u e q => by
    have ne : a ≠ x := fun z => by rw [z, h0] at e; cases e
    rw [upd_ne ne]; exact s.same a u e q
/-- a heap that has more, for a moment's use -/
theorem Step.junk {p : Addr} {o : HO} (w : WOk G I H k) (hp : H p = none) : Step G I H I (upd H p o) k where
  w := ⟨fun a u e => by rw [upd_ne (ne_of_none (w.inH a u e) hp)]; exact w.inH a u e, w.scr.sub fun u e => by rw [upd_ne (ne_of_none e hp)]; exact e, fun d hd => by
    obtain ⟨h1, h2, h3⟩ := w.drw d hd
    exact ⟨h1, h2, by rw [upd_ne (ne_of_none h3 hp)]; exact h3⟩⟩
  sub := fun _ _ e => e
  new := fun _ _ e => .inl e
  same := fun a u e _ => by rw [upd_ne (ne_of_none e hp)]; exact e
theorem OwnRep.upd {a x : Addr} {o : HO} {d : D} (h : OwnRep G I H a d) (ne : a ≠ x) : OwnRep G I (upd H x o) a d :=
  h.step (fun _ _ e => e) fun u e => by rw [upd_ne ne]; exact e
theorem OwnRep.notIns {a : Addr} {d : D} {C dx : Addr} {fs : List (Str × V)} (h : OwnRep G I H a d) : H a ≠ some (.ins C dx fs) := by
  cases d <;> first | exact False.elim h | (obtain ⟨_, h, _⟩ := h; intro e; rw [h] at e; cases e)
theorem OwnRep.notFrz {a : Addr} {d : D} (h : OwnRep G I H a d) (u : Obj) (l : HO) : H a ≠ some (.frz u l) := by
  cases d <;> first | exact False.elim h | (obtain ⟨_, h, _⟩ := h; intro e; rw [h] at e; cases e)
theorem set_len {i : Nat} {s t : Slot} (h : ρ[i]? = some s) : (ρ.set i t)[i]? = some t := by
  rw [List.getElem?_set_self (List.getElem?_eq_some_iff.mp h).1]
/-- an attribute is laid -/
theorem FI.meSet (F : FI G I0 H0 I H k σ ρ) {i : Nat} {c : Cn} {ds : List D} {v : V} {d : D} (hρ : ρ[i]? = some (.me c ds)) (r : Rep G I v d) (hl : ds.length < c.fields.length) :
    ∃ x dx C vs, σ[i]? = some (some (V.ref x)) ∧ H x = some (.ins C dx (c.fields.zip vs)) ∧ G.cls c = some C ∧ vs.length = ds.length ∧ FI G I0 H0 I (upd H x (.ins C dx (c.fields.zip (vs ++ [v])))) k σ (ρ.set i (.me c (ds ++ [d]))) := by
  obtain ⟨x, dx, C, vs, h1, h2, h3, h4, h5, h6, h7, h8, h9⟩ := F.me i c ds hρ
  refine ⟨x, dx, C, vs, h2, h3, h4, h6.length, F.st.write h7 h8 h9 (fun u l e => by rw [h3] at e; cases e), by simpa using F.len, fun j e h => ?_, fun j e h => ?_, fun j l e1 e2 a q1 q2 => ?_, fun j c' es h => ?_, fun j l c1 c2 d1 d2 q1 q2 => ?_⟩
  · rcases set_get h with ⟨rfl, e1⟩ | ⟨ne, h⟩
    · cases e1
    · exact F.val j e h
  · rcases set_get h with ⟨rfl, e1⟩ | ⟨ne, h⟩
    · cases e1
    · obtain ⟨a, g1, g2, g3⟩ := F.own j e h
      exact ⟨a, g1, g2.upd (fun z => by subst z; exact g2.notIns h3), g3⟩
  · rcases set_get q1 with ⟨rfl, e⟩ | ⟨ne, q1⟩
    · cases e
    · rcases set_get q2 with ⟨rfl, e⟩ | ⟨ne2, q2⟩
      · cases e
      · exact F.dis j l e1 e2 a q1 q2
  · rcases set_get h with ⟨rfl, e1⟩ | ⟨ne, h⟩
    · cases e1
      exact ⟨x, dx, C, vs ++ [v], h1, h2, by rw [upd_same], h4, by rw [List.length_append, List.length_singleton]; omega, h6.append (.cons r .nil), h7, h8, h9⟩
    · exact absurd (F.one _ _ _ _ _ _ h hρ) ne
  · rcases set_get q1 with ⟨rfl, e⟩ | ⟨ne, q1⟩
    · rcases set_get q2 with ⟨rfl, e⟩ | ⟨ne2, q2⟩
      · rfl
      · exact absurd (F.one _ _ _ _ _ _ q2 hρ) ne2
    · exact absurd (F.one _ _ _ _ _ _ q1 hρ) ne
/-- an own list is rewritten -/
theorem FI.ownSet (F : FI G I0 H0 I H k σ ρ) {i : Nat} {ds es : List D} {a : Addr} {ws : List V} (hρ : ρ[i]? = some (.own (.lst ds))) (hσ : σ[i]? = some (some (V.ref a))) (hI : I a = none) (h0 : H0 a = none) (hd : G.da ≠ some a)
    (hH : ∃ vs, H a = some (.lst vs)) (r : RepL G I ws es) : FI G I0 H0 I (upd H a (.lst ws)) k σ (ρ.set i (.own (.lst es))) := by
  obtain ⟨vs, hH⟩ := hH
  refine ⟨F.st.write hI h0 hd (fun u l e => by rw [hH] at e; cases e), by simpa using F.len, fun j e h => ?_, fun j e h => ?_, fun j l e1 e2 b q1 q2 q3 q4 => ?_, fun j c' es h => ?_, fun j l c1 c2 d1 d2 q1 q2 => ?_⟩
  · rcases set_get h with ⟨rfl, e1⟩ | ⟨ne, h⟩
    · cases e1
    · exact F.val j e h
  · rcases set_get h with ⟨rfl, e1⟩ | ⟨ne, h⟩
    · cases e1
      exact ⟨a, hσ, ⟨ws, by rw [upd_same], r⟩, hI, h0, hd⟩
    · obtain ⟨b, g1, g2, g3⟩ := F.own j e h
      exact ⟨b, g1, g2.upd (fun z => by subst z; exact ne (F.dis j i _ _ _ h hρ g1 hσ)), g3⟩
  · rcases set_get q1 with ⟨rfl, e⟩ | ⟨ne, q1'⟩
    · rcases set_get q2 with ⟨rfl, e'⟩ | ⟨ne2, q2⟩
      · rfl
      · exact F.dis _ _ _ _ b hρ q2 q3 q4
    · skip
      rcases set_get q2 with ⟨rfl, e'⟩ | ⟨ne2, q2⟩
      · exact F.dis _ _ _ _ b q1' hρ q3 q4
      · exact F.dis _ _ _ _ b q1' q2 q3 q4
  · rcases set_get h with ⟨rfl, e1⟩ | ⟨ne, h⟩
    · cases e1
    · obtain ⟨x, dx, C, vs, h1, h2, h3, h4⟩ := F.me j _ _ h
      exact ⟨x, dx, C, vs, h1, h2, by rw [upd_ne (fun z => by subst z; rw [hH] at h3; cases h3)]; exact h3, h4⟩
  · rcases set_get q1 with ⟨rfl, e⟩ | ⟨ne, q1⟩
    · cases e
    · rcases set_get q2 with ⟨rfl, e⟩ | ⟨ne2, q2⟩
      · cases e
      · exact F.one _ _ _ _ _ _ q1 q2
/-- a new own list -/
theorem FI.ownNew (F : FI G I0 H0 I H k σ ρ) {i : Nat} {es : List D} {a : Addr} {ws : List V} (hi : i < ρ.length) (hp : H a = none) (r : RepL G I ws es) : FI G I0 H0 I (upd H a (.lst ws)) k (σ.set i (some (.ref a))) (ρ.set i (.own (.lst es))) := by
  have hI : I a = none := by
    cases q : I a with
    | none => rfl
    | some o => have := F.w.inH a o q; rw [hp] at this; cases this
  have hd : G.da ≠ some a := F.w.ne hp
  have h0 : H0 a = none := by
    cases q : H0 a with
    | none => rfl
    | some o => have := F.st.same a o q hd; rw [hp] at this; cases this
  have F' := F.step (Step.junk (o := .lst ws) F.w hp)
  refine ⟨F'.st, by simpa using F.len, fun j e h => ?_, fun j e h => ?_, fun j l e1 e2 b q1 q2 q3 q4 => ?_, fun j c' es h => ?_, fun j l c1 c2 d1 d2 q1 q2 => ?_⟩
  · rcases set_get h with ⟨rfl, e1⟩ | ⟨ne, h⟩
    · cases e1
    · obtain ⟨v, g1, g2⟩ := F.val j e h
      exact ⟨v, by rw [List.getElem?_set_ne (Ne.symm ne)]; exact g1, g2⟩
  · rcases set_get h with ⟨rfl, e1⟩ | ⟨ne, h⟩
    · cases e1
      exact ⟨a, by rw [List.getElem?_set_self (by rw [F.len]; exact hi)], ⟨ws, by rw [upd_same], r⟩, hI, h0, hd⟩
    · obtain ⟨b, g1, g2⟩ := F'.own j e h
      exact ⟨b, by rw [List.getElem?_set_ne (Ne.symm ne)]; exact g1, g2⟩
  · have key : ∀ (j : Nat) (e : D), ρ[j]? = some (.own e) → j ≠ i → (σ.set i (some (V.ref a)))[j]? ≠ some (some (V.ref a)) := fun j e h ne z => by
      rw [List.getElem?_set_ne (Ne.symm ne)] at z
      obtain ⟨b, g1, g2, _⟩ := F.own j e h
      rw [z] at g1; cases g1
      obtain ⟨o, ho⟩ := g2.there
      rw [hp] at ho; cases ho
    rcases set_get q1 with ⟨rfl, e⟩ | ⟨ne, q1'⟩
    · rcases set_get q2 with ⟨rfl, e'⟩ | ⟨ne2, q2⟩
      · rfl
      · rw [List.getElem?_set_self (by rw [F.len]; exact hi)] at q3
        cases q3
        exact absurd q4 (key _ _ q2 ne2)
    · rcases set_get q2 with ⟨rfl, e'⟩ | ⟨ne2, q2⟩
      · rw [List.getElem?_set_self (by rw [F.len]; exact hi)] at q4
        cases q4
        exact absurd q3 (key _ _ q1' ne)
      · rw [List.getElem?_set_ne (Ne.symm ne)] at q3
        rw [List.getElem?_set_ne (Ne.symm ne2)] at q4
        exact F.dis _ _ _ _ b q1' q2 q3 q4
  · rcases set_get h with ⟨rfl, e1⟩ | ⟨ne, h⟩
    · cases e1
    · obtain ⟨x, dx, C, vs, h1, h2, h3⟩ := F'.me j _ _ h
      exact ⟨x, dx, C, vs, h1, by rw [List.getElem?_set_ne (Ne.symm ne)]; exact h2, h3⟩
  · rcases set_get q1 with ⟨rfl, e⟩ | ⟨ne, q1⟩
    · cases e
    · rcases set_get q2 with ⟨rfl, e⟩ | ⟨ne2, q2⟩
      · cases e
      · exact F.one _ _ _ _ _ _ q1 q2
/-- an own list is told on: from here on it never changes -/
theorem FI.freeze (F : FI G I0 H0 I H k σ ρ) {i : Nat} {ds : List D} (hρ : ρ[i]? = some (.own (.lst ds))) : ∃ I', Sub I I' ∧ FI G I0 H0 I' H k σ (ρ.set i (.val (.lst ds))) := by
  obtain ⟨a, hσ, ⟨vs, hH, r⟩, hI, h0, hd⟩ := F.own i _ hρ
  have sb : Sub I (upd I a (.lst vs)) := fun b u e => by
    have ne : b ≠ a := fun z => by rw [z, hI] at e; cases e
    rw [upd_ne ne]; exact e
  refine ⟨upd I a (.lst vs), sb, ⟨⟨fun b u e => ?_, F.w.scr, fun d h => ?_⟩, fun b u e => sb b u (F.st.sub b u e), fun b u e => ?_, F.st.same⟩, by simpa using F.len, fun j e h => ?_, fun j e h => ?_, fun j l e1 e2 b q1 q2 q3 q4 => ?_, fun j c' es h => ?_, fun j l c1 c2 d1 d2 q1 q2 => ?_⟩
  · by_cases z : b = a
    · subst z; rw [upd_same] at e; cases e; exact hH
    · rw [upd_ne z] at e; exact F.w.inH b u e
  · obtain ⟨h1, h2, h3⟩ := F.w.drw d h
    have ne : d ≠ a := fun z => hd (by rw [← z]; exact h)
    exact ⟨h1, by rw [upd_ne ne]; exact h2, h3⟩
  · by_cases z : b = a
    · subst z; exact .inr h0
    · rw [upd_ne z] at e; exact F.st.new b u e
  · rcases set_get h with ⟨rfl, e1⟩ | ⟨ne, h⟩
    · cases e1
      exact ⟨_, hσ, .lst upd_same (r.sub sb)⟩
    · obtain ⟨v, g1, g2⟩ := F.val j e h
      exact ⟨v, g1, g2.sub sb⟩
  · rcases set_get h with ⟨rfl, e1⟩ | ⟨ne, h⟩
    · cases e1
    · obtain ⟨b, g1, g2, g3, g4⟩ := F.own j e h
      have nb : b ≠ a := fun z => by subst z; exact ne (F.dis j i _ _ _ h hρ g1 hσ)
      exact ⟨b, g1, g2.step sb (fun o e => e), by rw [upd_ne nb]; exact g3, g4⟩
  · rcases set_get q1 with ⟨rfl, e⟩ | ⟨ne, q1⟩
    · cases e
    · rcases set_get q2 with ⟨rfl, e⟩ | ⟨ne2, q2⟩
      · cases e
      · exact F.dis _ _ _ _ b q1 q2 q3 q4
  · rcases set_get h with ⟨rfl, e1⟩ | ⟨ne, h⟩
    · cases e1
    · obtain ⟨x, dx, C, ws, h1, h2, h3, h4, h5, h6, h7, h8⟩ := F.me j _ _ h
      have nb : x ≠ a := fun z => by subst z; rw [hH] at h3; cases h3
      exact ⟨x, dx, C, ws, h1, h2, h3, h4, h5, h6.sub sb, by rw [upd_ne nb]; exact h7, h8⟩
  · rcases set_get q1 with ⟨rfl, e⟩ | ⟨ne, q1⟩
    · cases e
    · rcases set_get q2 with ⟨rfl, e⟩ | ⟨ne2, q2⟩
      · cases e
      · exact F.one _ _ _ _ _ _ q1 q2
end

-- ### statements 
section
variable {G : Gh} {X : Cx} {pos pos' apos cpos py p0 : Pos}
def sMe (i : Nat) (f : Str) (g : Sem) : SemS := fun ρ => M.bind (g ρ) fun d => match ρ[i]? with
  | some (Slot.me c ds) => (match c.fields[ds.length]? == some f with
    | true => M.pure (.nx (ρ.set i (.me c (ds ++ [d]))))
    | false => M.fail)
  | _ => M.fail
theorem putF_new {f : Str} {v : V} : ∀ {ns : List Str} {vs : List V}, ns.Nodup → ns[vs.length]? = some f → putF f v (ns.zip vs) = ns.zip (vs ++ [v])
  | [], vs, _, h => by simp at h
  | n :: ns, [], nd, h => by
    simp at h; subst h
    cases ns <;> rfl
  | n :: ns, w :: vs, nd, h => by
    have nd' := List.nodup_cons.mp nd
    have h' : ns[vs.length]? = some f := by simpa using h
    have ne : n ≠ f := fun z => nd'.1 (by rw [z]; exact List.mem_of_getElem? h')
    simp only [List.zip_cons_cons, List.cons_append, putF, if_neg ne]
    rw [putF_new nd'.2 h']
theorem fields_nodup (c : Cn) : c.fields.Nodup := by cases c <;> decide
theorem fields_few (c : Cn) : c.fields.length < 1000 := by cases c <;> decide
theorem ds_me {o value : Expr} {f : Str} {i : Nat} {g : Sem} (hK : X.K = G.K) (hC : ∀ c C, G.cls c = some C → ClsOk G c C) (ho : PE X o (tVar i)) (hv : DE G X value g) (hs : swapsWith value (some (.Attribute o f pos')) pos.line X.env = pure false) :
    DS G X (.Assign [.Attribute o f pos'] value pos) (sMe i f g) := PS.mono (ps_fld ho hv hs) fun D σ H hq => by
  obtain ⟨I0, H0, I, k, ρ, o, k', F, e, q⟩ := hq
  obtain ⟨d, k1, e1, e2⟩ := M.bind_some e
  cases c0 : ρ[i]? with
  | none => rw [c0] at e2; cases e2
  | some sl =>
    rw [c0] at e2
    cases sl with
    | me c ds =>
      simp only at e2
      cases c1 : (c.fields[ds.length]? == some f) with
      | false => rw [c1] at e2; cases e2
      | true =>
        rw [c1] at e2
        obtain ⟨rfl, rfl⟩ := M.pure_some e2
        refine ⟨I0, H0, I, k, ρ, d, _, F, e1, fun I1 H1 v s1 r1 => ?_⟩
        have hf : c.fields[ds.length]? = some f := eq_of_beq c1
        have hl : ds.length < c.fields.length := (List.getElem?_eq_some_iff.mp hf).1
        obtain ⟨x, dx, C, vs, h1, h2, h3, h4, F'⟩ := (F.step s1).meSet c0 r1 hl
        have ok := hC _ _ h3
        refine ⟨.ref x, h1, x, C, dx, _, rfl, h2, by rw [hK]; exact ok.cl, by rw [hK]; exact ok.no f (List.mem_of_getElem? hf), ?_, ?_⟩
        · rw [List.length_zip]; have := fields_few c; omega
        · rw [putF_new (fields_nodup c) (by rw [h4]; exact hf)]
          exact q _ _ _ F' s1.sub
    | _ => cases e2
/-- x = [..], a list that this name alone holds -/
def sOwn (f : SemL) (i : Nat) : SemS := fun ρ => M.bind (f ρ) fun ds => if ds.length ≤ 1000000 ∧ i < ρ.length then M.pure (.nx (ρ.set i (.own (.lst ds)))) else M.fail
theorem ds_own {es : List Expr} {x : Str} {f : SemL} {i : Nat} (ha : DA G X es f) (h : ∀ te, PE X (.List es p0) te → PS X (.Assign [.Name x py] (.List es p0) pos) (tAsg te (gName i))) :
    DS G X (.Assign [.Name x py] (.List es p0) pos) (sOwn f i) := PS.mono (h _ (pe_lst ha)) fun D σ H hq => by
  obtain ⟨I0, H0, I, k, ρ, o, k', F, e, q⟩ := hq
  obtain ⟨ds, k1, e1, e2⟩ := M.bind_some e
  by_cases c : ds.length ≤ 1000000 ∧ i < ρ.length
  · rw [if_pos c] at e2
    obtain ⟨rfl, rfl⟩ := M.pure_some e2
    refine ⟨I0, H0, I, k, ρ, ds, _, F, e1, fun I1 H1 vs s1 r1 => ⟨by rw [r1.length, sizeLine_eq]; omega, fun p hp => ?_⟩⟩
    exact q _ _ _ ((F.step s1).ownNew c.2 hp r1) s1.sub
  · rw [if_neg c] at e2; cases e2
/-- x.append(e), x an own list -/
def sApp (i : Nat) (f : Sem) : SemS := fun ρ => M.bind (f ρ) fun d => match ρ[i]? with
  | some (Slot.own (.lst ds)) => if ds.length < 1000000 then M.pure (.nx (ρ.set i (.own (.lst (ds ++ [d]))))) else M.fail
  | _ => M.fail
theorem ds_app {o e : Expr} {i : Nat} {f : Sem} (ho : PE X o (tVar i)) (he : DE G X e f) (hs : swapsWith (.Call (.Attribute o "append" apos) [e] [] cpos) none pos.line X.env = pure false)
    (hbase : attributeBase o "append" X.env (eval o X.env) = eval o X.env)
    (hfew : ((backTo cpos (starEach [e] X.env)).all (fun x => !x.1) && (backToKw cpos (keywordEach [] X.env)).all (fun x => x.1.isSome)
      && decide (([e]).length + ([] : List Keyword).length + (if ([] : List Keyword).isEmpty then 0 else 1) < 30)) = true)
    (hline : (apos.endLine == cpos.line) = true) (hst : starEach [e] X.env = (false, eval e X.env) :: starEach [] X.env) (hplain : (backTo cpos (starEach [] X.env)).any (·.1) = false) :
    DS G X (.Expr (.Call (.Attribute o "append" apos) [e] [] cpos) pos) (sApp i f) :=
  PS.mono (ps_expr (pe_bm PySem.F.plainAttrs_list PySem.F.slot_list_append PySem.F.type_list_append mt_append ho (pa_cons he pa_nil hst) hbase hfew hline hst hplain) hs) fun D σ H hq => by
  obtain ⟨I0, H0, I, k, ρ, o, k', F, e, q⟩ := hq
  obtain ⟨d, k1, e1, e2⟩ := M.bind_some e
  cases c0 : ρ[i]? with
  | none => rw [c0] at e2; cases e2
  | some sl =>
    rw [c0] at e2
    cases sl with
    | own l =>
      cases l with
      | lst ds =>
        simp only at e2
        by_cases c : ds.length < 1000000
        · rw [if_pos c] at e2
          obtain ⟨rfl, rfl⟩ := M.pure_some e2
          obtain ⟨a, g1, ⟨vs, hH, r⟩, g3, g4, g5⟩ := F.own i _ c0
          refine ⟨.ref a, g1, ?_, ?_⟩
          · exact .inl ⟨rfl, vs, .inl (.inl hH)⟩
          · refine ⟨I0, H0, I, k, ρ, d, _, F, e1, fun I1 H1 v s1 r1 => ?_⟩
            have F1 := F.step s1
            obtain ⟨b, g1', ⟨ws, hW, rw1⟩, g3', g4', g5'⟩ := F1.own i _ c0
            obtain rfl : a = b := by rw [g1] at g1'; cases g1'; rfl
            refine ⟨a, ws, v, rfl, rfl, hW, by rw [rw1.length, sizeLine_eq]; omega, ?_⟩
            exact q _ _ _ (F1.ownSet c0 g1' g3' g4' g5' ⟨ws, hW⟩ (rw1.append (.cons r1 .nil))) s1.sub
        · rw [if_neg c] at e2; cases e2
      | _ => cases e2
    | _ => cases e2
/-- from here on the name's list never changes -/
def sFrz (i : Nat) (f : SemS) : SemS := fun ρ => match ρ[i]? with
  | some (Slot.own (.lst ds)) => f (ρ.set i (.val (.lst ds)))
  | _ => f ρ
theorem td_frz {i : Nat} {f : SemS} {D : Ends} {σ : List (Option V)} {H : Hp} (hq : tDS G (sFrz i f) D σ H) : tDS G f D σ H := by
  obtain ⟨I0, H0, I, k, ρ, o, k', F, e, q⟩ := hq
  have same : f ρ k = some (o, k') → tDS G f D σ H := fun e => ⟨I0, H0, I, k, ρ, o, k', F, e, q⟩
  unfold sFrz at e
  cases c : ρ[i]? with
  | none => rw [c] at e; exact same e
  | some sl =>
    rw [c] at e
    cases sl with
    | own d =>
      cases d with
      | lst ds =>
        obtain ⟨I', sb, F'⟩ := F.freeze c
        exact ⟨I0, H0, I', k, _, o, k', F', e, q.sub sb⟩
      | _ => exact same e
    | _ => exact same e
theorem ds_frz {s : Stmt} {i : Nat} {f : SemS} (h : DS G X s f) : DS G X s (sFrz i f) := PS.mono h fun D σ H hq => td_frz hq
theorem dss_frz {s : List Stmt} {i : Nat} {f : SemS} (h : DSs G X s f) : DSs G X s (sFrz i f) := PSs.mono h fun D σ H hq => td_frz hq
end
end Sky

end
section
-- SkyK: isinstance, == and != of instances by their own __eq__. 
namespace PySem.W
open PySem PySem.Spec PySem.Calls PyProof.Rows Builtin
section
variable {prog : Program} {w : World} {A A₀ : Around} {E : Value → Shared → Prop} {s : Shared} {K : Frag} {x C L f : Addr} {h₀ : Heap} {m : Str → Option Value} {ox : Obj} {od : Option Obj} {name : Str} {b tb : Value}
theorem sky_check (X : K.In s.heap) (I : InstAt s.heap x ox C od) (hob : subIn K (.ref C) (.type "object") = some true) {M : Model} {Q : Unit → Shared → Prop} (hq : Q () s) :
    wpAny M A (checkBuiltinCall "object.__ne__" ⟨.ref x :: [b], []⟩) Q E s := by
  simp only [checkBuiltinCall, F.cmpKind_ne, F.cmpSplit_ne]
  refine wpAny_bind ?_
  · unfold isInstance
    repeat (first | (with_reducible refine I.type.here ?_) | (with_reducible refine (looks_subIn X hob).here ?_) | wp_step)
    exact hq
theorem sky_ne (hu : A.units + 1 < cLine) (Fr' : Fr h₀ L s.heap m) (X₀ : K.In h₀) (I : InstAt s.heap x ox C od) (hb : Looks (model prog w) s.heap (typeOf b) tb) (hn : notFirst K C tb = true)
    (hne : findIn K (.ref C) "__ne__" = some (some (.builtin "object.__ne__"))) (hob : subIn K (.ref C) (.type "object") = some true)
    (hs : findIn K (.ref C) "__eq__" = some (some (.ref f))) (hf : isFn K (.ref f) = true) {Q : Value → Shared → Prop}
    (h : wpAny (model prog w) A.in1 (call (.ref f) [.ref x, b]) (fun v s' => ∃ r, v = .bool r ∧ Q (.bool (!r)) s') E s) : wpAny (model prog w) A (richCompare .NotEq (.ref x) b) Q E s := by
  have X := X₀.keeps Fr'.keep
  have FB := F.cmp_object
  have body : ∀ {Q : Fin → Shared → Prop}, wpAny (model prog w) A.in1 (call (.ref f) [.ref x, b]) (fun v s' => ∃ r, v = .bool r ∧ Q (.done (.ret (.bool (!r)))) s') E s →
      wpAny (model prog w) A.in1 (Builtin.«object.__ne__» ⟨[.ref x, b], []⟩) Q E s := fun {Q} hc => by
    unfold Builtin.«object.__ne__»
    have hu1 : A.in1.units < cLine := hu
    repeat (first
      | with_reducible refine wpAny_cRoomFor hu1 ?_
      | (refine wpAny_bind (m := callSpecialIfBound? (.ref x) (Str.ofString "__eq__") [b])
          (ifBound_K X I hs hf (wpAny_mono hc (fun r s' hr => by
            obtain ⟨b, rfl, hq⟩ := hr
            repeat (first | exact hq | exact wpAny_pure hq | exact wpAny_truthy_bool hq | (refine wpAny_bind (m := truthy (.bool _)) (wpAny_truthy_bool ?_)) | wp_step)) fun _ _ e => e)))
      | wp_step)
  have callNe : ∀ {Q : Value → Shared → Prop}, wpAny (model prog w) A.in1 (call (.ref f) [.ref x, b]) (fun v s' => ∃ r, v = .bool r ∧ Q (.bool (!r)) s') E s → wpAny (model prog w) A (call (.builtin "object.__ne__") [.ref x, b]) Q E s := fun {Q} hc =>
    wpAny_call (codeAny_call_builtin FB.ne.plain F.cmpEntry_ne (sky_check X I hob (body (wpAny_mono hc (fun v s' hv => by
      obtain ⟨r, rfl, hq⟩ := hv
      exact ⟨r, rfl, hq⟩) fun _ _ e => e))))
  have ifb : ∀ {Q : Option Value → Shared → Prop}, wpAny (model prog w) A (call (.builtin "object.__ne__") [.ref x, b]) (fun v => Q (some v)) E s → wpAny (model prog w) A (callSpecialIfBound? (.ref x) "__ne__" [b]) Q E s := fun {Q} h => by
    simp only [callSpecialIfBound?, bindSpecialIfBound?]
    refine wpAny_holding (wpAny_bind (wpAny_bind (wpAny_bind (I.type.here ((looks_findIn X hne).here ?_)))))
    simp only [FB.ne.bind]
    refine wpAny_bind (wpAny_askSetting (wpAny_ite ?_))
    have fin : wpAny (model prog w) A (call (.builtin "object.__ne__") ([.ref x] ++ [b]) >>= fun v => pure (some v)) Q E s := wpAny_bind (wpAny_mono h (fun v s' h' => wpAny_pure h') fun _ _ h' => h')
    split
    · exact wpAny_bind (wpAny_pure (wpAny_pure fin))
    · exact wpAny_tryCatch (wpAny_bind (wpAny_pure (wpAny_pure fin)))
  have one : wpAny (model prog w) A (tryCompare (.ref x) "__ne__" b) (fun r s' => ∃ v, r = some v ∧ Q v s') E s := by
    unfold tryCompare
    refine wpAny_bind (ifb (callNe (wpAny_mono h (fun v s' hv => ?_) fun _ _ e => e)))
    obtain ⟨r, rfl, hq⟩ := hv
    exact ⟨r, rfl, wpAny_pure ⟨_, rfl, hq⟩⟩
  unfold richCompare
  simp only [oneThing_ref]
  have hu0 : A.units < cLine := Nat.lt_of_succ_lt hu
  refine wpAny_holding (wpAny_bind (wpAny_cRoomFor hu0 ?_))
  rw [cmpInfo_NotEq]
  dsimp only
  refine wpAny_bind (I.type.here (wpAny_bind (hb.here ?_)))
  split
  · rename_i q
    have e : subIn K tb (.ref C) = some false := by
      rcases Bool.or_eq_true_iff.mp hn with e | e
      · rw [beq_iff_eq.mp e] at q; simp at q
      · exact beq_iff_eq.mp e
    refine wpAny_bind ((looks_subIn X e).here ?_)
    simp only [Bool.false_eq_true, if_false]
    refine wpAny_bind (wpAny_mono one (fun r s' z => ?_) fun _ _ e => e)
    obtain ⟨v, rfl, hq⟩ := z
    exact wpAny_pure hq
  · refine wpAny_bind (wpAny_pure ?_)
    simp only [Bool.false_eq_true, if_false]
    refine wpAny_bind (wpAny_mono one (fun r s' z => ?_) fun _ _ e => e)
    obtain ⟨v, rfl, hq⟩ := z
    exact wpAny_pure hq
end
end PySem.W
namespace Sky
open PySem PySem.Spec PyProof.Rows L2
-- ### the kinds of data, as isinstance tells them 
inductive Kl where
  | non | bool | int | str | tuple | list | dict | own (c : Cn)
  deriving DecidableEq
def Kl.u (G : Gh) : Kl → Option Value
  | .non => some (.type "NoneType") | .bool => some (.type "bool") | .int => some (.type "int") | .str => some (.type "str") | .tuple => some (.type "tuple") | .list => some (.type "list") | .dict => some (.type "dict")
  | .own c => (G.cls c).map .ref
def Kl.v (G : Gh) : Kl → Option V
  | .non => some (.ty "NoneType") | .bool => some (.ty "bool") | .int => some (.ty "int") | .str => some (.ty "str") | .tuple => some (.ty "tuple") | .list => some (.ty "list") | .dict => some (.ty "dict")
  | .own c => (G.cls c).map .ref
def Kl.sub (t u : Kl) : Bool := decide (t = u) || (decide (t = .bool) && decide (u = .int))
def D.kl : D → Option Kl
  | .non => some .non | .bl _ => some .bool | .int _ => some .int | .str _ => some .str | .tup _ => some .tuple | .lst _ => some .list | .ins c _ => some (.own c) | .dK _ => some .dict
  | _ => none
/-- what must be known of the classes -/
structure KitOk (G : Gh) : Prop where
  one : ∀ (t u : Kl) (a b : Value), t.u G = some a → u.u G = some b → PySem.W.kitOne G.K a b = some (t.sub u)
  cls : ∀ c C, G.cls c = some C → ClsOk G c C
  ha : ∀ c C, G.cls c = some C → PySem.W.findIn G.K (.ref C) "__class__" = some (some (.builtin "object.__class__"))
  hn : PySem.W.specialIn G.K (.builtin "object.__class__") "__get__" = some (some (.builtin "getset_descriptor.__get__"))
  ht : PySem.W.takesIn G.K (.builtin "object.__class__") = some true
  hm : ∀ c C, G.cls c = some C → PySem.W.mroIn G.K C (.type "object") = some true
  nf : ∀ (c : Cn) (C : Addr) (t : Kl) (a : Value), G.cls c = some C → t.u G = some a → PySem.W.notFirst G.K C a = true
  ne : ∀ c C, G.cls c = some C → PySem.W.findIn G.K (.ref C) "__ne__" = some (some (.builtin "object.__ne__"))
  ob : ∀ c C, G.cls c = some C → PySem.W.subIn G.K (.ref C) (.type "object") = some true
section
variable {G : Gh} {X : Cx} {pos p p1 p2 pt : Pos}
theorem tyx_of (kit : KitOk G) {I H : Hp} {v : V} {d : D} {t : Kl} (w : Sub I H) (h : RepB G I H v d) (e : d.kl = some t) : ∃ a, t.u G = some a ∧ TyX G.K H v a := by
  rcases h with h | ⟨a, rfl, h, _⟩
  · cases h with
    | non => cases e; exact ⟨_, rfl, .base .non⟩
    | bl b => cases e; exact ⟨_, rfl, .base (.bl b)⟩
    | int i => cases e; exact ⟨_, rfl, .base (.int i)⟩
    | str x => cases e; exact ⟨_, rfl, .base (.str x)⟩
    | tup h r =>
      cases e
      refine ⟨_, rfl, ?_⟩
      rcases h with (h | ⟨o, h⟩) | ⟨o, its, n, h1, h2, h3⟩
      · exact .base (.tup (w _ _ h))
      · exact .fTuple (w _ _ h)
      · exact .kTuple h1 h2
    | lst h r => cases e; exact ⟨_, rfl, .base (.lst (w _ _ h))⟩
    | ins h hc hl r =>
      cases e
      exact ⟨_, by show (G.cls _).map Value.ref = _; rw [hc]; rfl, .base (.ins (w _ _ h) (kit.cls _ _ hc).cl (kit.ha _ _ hc) kit.hn kit.ht (kit.hm _ _ hc))⟩
    | dK h hk r =>
      cases e
      refine ⟨_, rfl, ?_⟩
      rcases h with h | ⟨o, h⟩
      · exact .base (.dK (w _ _ h))
      · exact .fDict (w _ _ h)
    | dT h hk r => cases e
    | scr => cases e
    | drw h => cases e
  · cases d <;> first | exact False.elim h | skip
    · obtain ⟨vs, h, r⟩ := h; cases e; exact ⟨_, rfl, .base (.lst h)⟩
    · obtain ⟨vs, h, r⟩ := h; cases e; exact ⟨_, rfl, .base (.dK h)⟩
    · cases e
end
end Sky

end
section
-- SkyL: isinstance, == and != with instances, by data. 
namespace Sky
open PySem PySem.Spec PyProof.Rows L2
section
variable {G : Gh} {X : Cx} {pos p p1 p2 pt : Pos} {a b : Expr}
theorem klv_cls {t : Kl} {w : V} (h : t.v G = some w) : ∃ u, t.u G = some u ∧ ClsV w u := by
  cases t <;> first | (cases h; exact ⟨_, rfl, .ty _⟩) | skip
  rename_i c
  change (G.cls c).map V.ref = some w at h
  show ∃ u, (G.cls c).map Value.ref = some u ∧ ClsV w u
  cases q : G.cls c with
  | none => rw [q] at h; cases h
  | some C => rw [q] at h; cases h; exact ⟨_, rfl, .own C⟩
def dIsi (t : Kl) (f : Sem) : Sem := fun ρ => M.bind (f ρ) fun d => M.lift (d.kl.map fun s => .bl (s.sub t))
theorem de_isi {t : Kl} {w : V} {f : Sem} (hK : X.K = G.K) (kit : KitOk G) (hg : Gl X "isinstance") (hm : X.mg "isinstance" = none) (hw : t.v G = some w) (ha : DR G X a f) (hb : PE X b (tC w))
    (h1 : starEach [a, b] X.env = (false, eval a X.env) :: starEach [b] X.env) (h2 : starEach [b] X.env = (false, eval b X.env) :: starEach [] X.env) (h3 : (backTo pos (starEach [b] X.env)).any (·.1) = false) :
    DE G X (.Call (.Name "isinstance" p) [a, b] [] pos) (dIsi t f) :=
  PE.mono (pe_callB call_isi hg hm rfl (pa_cons ha (pa_cons hb pa_nil h2) h1) (by decide) (by decide) h1 h3) fun σ H Q hq => by
  obtain ⟨I0, H0, I, k, ρ, d, k', F, e, q⟩ := hq
  obtain ⟨x, k1, e1, e⟩ := M.bind_some e
  obtain ⟨e3, rfl⟩ := M.lift_some e
  refine ⟨I0, H0, I, k, ρ, x, _, F, e1, fun I1 H1 v s1 r1 => ?_⟩
  cases q1 : x.kl with
  | none => rw [q1] at e3; cases e3
  | some s =>
    rw [q1] at e3; cases e3
    obtain ⟨a1, g1, g2⟩ := tyx_of kit s1.w.inH r1 q1
    obtain ⟨u, g3, g4⟩ := klv_cls hw
    exact ⟨v, w, a1, u, _, rfl, g4, by rw [hK]; exact g2, by rw [hK]; exact kit.one s t a1 u g1 g3, q I1 H1 _ s1 (.bl _)⟩
def Kl.subs (t : Kl) : List Kl → Bool
  | [] => false
  | u :: us => t.sub u || t.subs us
def dIsiT (ts : List Kl) (f : Sem) : Sem := fun ρ => M.bind (f ρ) fun d => M.lift (d.kl.map fun s => .bl (s.subs ts))
def tVs (ws : List V) : TA := fun σ H Q => Q ws H
theorem pa_vs_nil : PA X [] (tVs []) := pa_nil
theorem pa_vs {e : Expr} {es : List Expr} {w : V} {ws : List V} (he : PE X e (tC w)) (ht : PA X es (tVs ws)) (hs : starEach (e :: es) X.env = (false, eval e X.env) :: starEach es X.env) : PA X (e :: es) (tVs (w :: ws)) := pa_cons he ht hs
theorem kitAny_of (kit : KitOk G) {s : Kl} {a1 : Value} (g1 : s.u G = some a1) : ∀ {ts : List Kl} {us : List Value}, ts.map (Kl.u G) = us.map some → PySem.W.kitAny G.K a1 us = some (s.subs ts)
  | [], [], _ => rfl
  | [], _ :: _, h => by cases h
  | _ :: _, [], h => by cases h
  | t :: ts, u :: us, h => by
    simp only [List.map_cons, List.cons.injEq] at h
    refine kitAny_cons (kit.one s t a1 u g1 h.1) (fun z => ?_) (fun z => ?_)
    · rw [kitAny_of kit g1 h.2]; simp [Kl.subs, z]
    · simp [Kl.subs, z]
theorem cls_all : ∀ {ts : List Kl} {ws : List V}, ts.map (Kl.v G) = ws.map some → ∃ us, ts.map (Kl.u G) = us.map some ∧ Paired ClsV ws us
  | [], [], _ => ⟨[], rfl, .nil⟩
  | [], _ :: _, h => by cases h
  | _ :: _, [], h => by cases h
  | t :: ts, w :: ws, h => by
    simp only [List.map_cons, List.cons.injEq] at h
    obtain ⟨u, g1, g2⟩ := klv_cls h.1
    obtain ⟨us, g3, g4⟩ := cls_all h.2
    exact ⟨u :: us, by simp [g1, g3], .cons g2 g4⟩
theorem de_isiT {ts : List Kl} {ws : List V} {bs : List Expr} {x1 : Nat} {f : Sem} (hK : X.K = G.K) (kit : KitOk G) (hg : Gl X "isinstance") (hm : X.mg "isinstance" = none) (hw : ts.map (Kl.v G) = ws.map some) (ha : DR G X a f) (hb : PA X bs (tVs ws))
    (hlen : ws.length ≤ 100)
    (h1 : starEach [a, .Tuple bs x1 pt] X.env = (false, eval a X.env) :: starEach [.Tuple bs x1 pt] X.env) (h2 : starEach [.Tuple bs x1 pt] X.env = (false, eval (.Tuple bs x1 pt) X.env) :: starEach [] X.env) (h3 : (backTo pos (starEach [.Tuple bs x1 pt] X.env)).any (·.1) = false) :
    DE G X (.Call (.Name "isinstance" p) [a, .Tuple bs x1 pt] [] pos) (dIsiT ts f) :=
  PE.mono (pe_callB call_isiT hg hm rfl (pa_cons ha (pa_cons (pe_tup hb) pa_nil h2) h1) (by decide) (by decide) h1 h3) fun σ H Q hq => by
  obtain ⟨I0, H0, I, k, ρ, d, k', F, e, q⟩ := hq
  obtain ⟨x, k1, e1, e⟩ := M.bind_some e
  obtain ⟨e3, rfl⟩ := M.lift_some e
  refine ⟨I0, H0, I, k, ρ, x, _, F, e1, fun I1 H1 v s1 r1 => ?_⟩
  cases q1 : x.kl with
  | none => rw [q1] at e3; cases e3
  | some s =>
    rw [q1] at e3; cases e3
    refine ⟨by rw [sizeLine_eq]; omega, fun tp hp => ?_⟩
    have s2 := Step.junk (o := .tup ws) s1.w hp
    obtain ⟨a1, g1, g2⟩ := tyx_of kit s2.w.inH (r1.step s2) q1
    obtain ⟨us, g3, g4⟩ := cls_all hw
    exact ⟨v, tp, ws, a1, us, _, rfl, upd_same, g4, by rw [hK]; exact g2, by rw [hK]; exact kitAny_of kit g1 g3, q I1 _ _ (s1.trans s2) (.bl _)⟩

-- ### == and != where the left one may be an instance 
/-- the own __eq__ of classes -/
abbrev Eqt := Cn → Option Fn
def EqOk (G : Gh) (X : Cx) (eqt : Eqt) : Prop := ∀ c F C, eqt c = some F → G.cls c = some C →
  ∃ (j : Nat) (f : Addr) (fd : FuncData) (ps : List Str), Meth X.K C "__eq__" f ∧ FnOk X.prog X.w X.K X.mg X.base CX0 j f fd ps (spM G 2 F) ∧ Room (j + 1) X.A ∧ Binds X.K fd ps []
def dEqD (eqt : Eqt) (neg : Bool) (x y : D) : M D := match x with
  | .ins c fs => (match eqt c with
    | some F => (match y.kl with
      | some _ => M.bind (F [.ins c fs, y]) fun r => (match r with
        | .bl b => M.pure (.bl (xor neg b))
        | _ => M.fail)
      | none => M.fail)
    | none => M.fail)
  | _ => M.lift (((cEqP x y).map (xor neg)).map D.bl)
def dEq (eqt : Eqt) (neg : Bool) (f g : Sem) : Sem := fun ρ => M.bind (f ρ) fun x => M.bind (g ρ) fun y => dEqD eqt neg x y
/-- == of an instance, by the heap -/
def rInsEq (G : Gh) (eqt : Eqt) (neg : Bool) : R2 := fun x y H Q => ∃ a C dx fs c F, x = .ref a ∧ H a = some (.ins C dx fs) ∧ G.cls c = some C ∧ eqt c = some F ∧ (∃ (t : Kl) (u : Value), t.u G = some u ∧ TyX G.K H y u) ∧
  spM G 2 F [x, y] H (fun v H' => ∃ b, v = .bl b ∧ Q (.bl (xor neg b)) H') E0
theorem op_insEq {eqt : Eqt} (hK : X.K = G.K) (kit : KitOk G) (hE : EqOk G X eqt) : OpR X (compareOp .Eq) (rInsEq G eqt false) := by
  intro pins s σ H x y v u Q I rx ry hq
  obtain ⟨a, C, dx, fs, c, F, rfl, ha, hC, hF, ⟨t, tu, ht, ty⟩, hsp⟩ := hq
  cases rx
  show wpAny (model X.prog X.w) X.A (richCompare .Eq (.ref a) u) (EP X pins σ Q) X.xe s
  obtain ⟨mA, J, _⟩ := ins_get I.hok ha
  obtain ⟨od, J, _⟩ := J.look
  obtain ⟨m, hFr⟩ := I.fr
  obtain ⟨j, f, fd, ps, hM, hok, hr, hb⟩ := hE c F C hF hC
  obtain ⟨P, Z, pz, hx⟩ := kit_of I ry (by rw [hK]; exact ty)
  refine PySem.W.cmp_K (op := .Eq) (tb := tu) hr.units0 hFr I.ok.mod.kin J (Z.ty _ _ I.kIn pz) (by rw [hK]; exact kit.nf c C t tu hC ht) hM.at_ hM.fn ?_
  refine thn (run_fn (Q := fun v H' => ∃ b, v = .bl b ∧ Q (.bl (xor false b)) H') (us := [.ref a, u]) (vs := [.ref a, y]) hok (hr.mono (Nat.le_succ _)) hb .nil (E := E0) pass0 I (.cons rfl (.cons ry .nil)) (by rw [List.append_nil]; exact hsp)) fun v s1 ⟨z, H1, I1, rz, b, e, q⟩ => ?_
  subst e
  cases rz
  exact ⟨.bl b, H1, I1, rfl, by rw [show (xor false b) = b from by cases b <;> rfl] at q; exact q⟩
theorem op_insNe {eqt : Eqt} (hK : X.K = G.K) (kit : KitOk G) (hE : EqOk G X eqt) : OpR X (compareOp .NotEq) (rInsEq G eqt true) := by
  intro pins s σ H x y v u Q I rx ry hq
  obtain ⟨a, C, dx, fs, c, F, rfl, ha, hC, hF, ⟨t, tu, ht, ty⟩, hsp⟩ := hq
  cases rx
  show wpAny (model X.prog X.w) X.A (richCompare .NotEq (.ref a) u) (EP X pins σ Q) X.xe s
  obtain ⟨mA, J, _⟩ := ins_get I.hok ha
  obtain ⟨od, J, _⟩ := J.look
  obtain ⟨m, hFr⟩ := I.fr
  obtain ⟨j, f, fd, ps, hM, hok, hr, hb⟩ := hE c F C hF hC
  obtain ⟨P, Z, pz, hx⟩ := kit_of I ry (by rw [hK]; exact ty)
  refine PySem.W.sky_ne (tb := tu) hr.in1.units0 hFr I.ok.mod.kin J (Z.ty _ _ I.kIn pz) (by rw [hK]; exact kit.nf c C t tu hC ht) (by rw [hK]; exact kit.ne c C hC) (by rw [hK]; exact kit.ob c C hC) hM.at_ hM.fn ?_
  have hl := hok.len _ _ _ _ hsp
  have r2 : Vals [V.ref a, y] [Value.ref a, u] := .cons rfl (.cons ry .nil)
  have hb2 := hb s [.ref a, u] I.kIn (by rw [List.append_nil, ← r2.length]; exact hl)
  rw [List.append_nil] at hb2
  refine wpAny_call (codeAny_mono (hok.run X.A.in1 X.stack s H ⟨[.ref a, u], []⟩ [.ref a, u] [.ref a, y] (fun v H' => ∃ b, v = .bl b ∧ Q (.bl (xor true b)) H') E0 hr.in1 I.env0.in1 hb2 r2 hsp) fun r s' hq => ?_)
  cases r with
  | error e => exact pass0 pins σ H s e s' I hq
  | ok fl =>
    cases fl with
    | ret w =>
      obtain ⟨z, H1, I1, rz, b, e, q⟩ := I.after hq
      subst e
      cases rz
      exact ⟨b, rfl, .bl _, H1, I1, rfl, by rw [show (xor true b) = !b from by cases b <;> rfl] at q; exact q⟩
    | next => exact False.elim hq
    | brk => exact False.elim hq
    | cont => exact False.elim hq
theorem OpR.or {f : Value → Value → PySem.Sem Value} {r1 r2 : R2} (h1 : OpR X f r1) (h2 : OpR X f r2) : OpR X f (fun x y H Q => r1 x y H Q ∨ r2 x y H Q) := by
  intro pins s σ H x y v u Q I rx ry hq
  rcases hq with hq | hq
  · exact h1 pins s σ H x y v u Q I rx ry hq
  · exact h2 pins s σ H x y v u Q I rx ry hq
theorem ins_of {I H : Hp} {v : V} {c : Cn} {fs : List D} (w : Sub I H) (h : RepB G I H v (.ins c fs)) : Rep G I v (.ins c fs) := by
  rcases h with h | ⟨a, rfl, h, _⟩
  · exact h
  · exact False.elim h
theorem rep_of {I H : Hp} {v : V} {d : D} (h : Rep G I v d) : RepB G I H v d := .inl h
theorem td_eq {eqt : Eqt} {neg : Bool} {f g : Sem} {rp : R2} (kit : KitOk G) (hp : RDB G rp (fun x y => (cEqP x y).map (xor neg))) {σ : List (Option V)} {H : Hp} {Q : VK} (hq : tD G (dEq eqt neg f g) σ H Q) :
    tOp (fun x y H Q => rInsEq G eqt neg x y H Q ∨ rp x y H Q) (tDR G f) (tD G g) σ H Q := by
  obtain ⟨I0, H0, I, k, ρ, d, k', F, e, q⟩ := hq
  obtain ⟨x, k1, e1, e⟩ := M.bind_some e
  obtain ⟨y, k2, e2, e⟩ := M.bind_some e
  refine ⟨I0, H0, I, k, ρ, x, k1, F, e1, fun I1 H1 v s1 r1 => ⟨I0, H0, I1, k1, ρ, y, k2, F.step s1, e2, fun I2 H2 u s2 r2 => ?_⟩⟩
  have plain : M.lift (((cEqP x y).map (xor neg)).map D.bl) k2 = some (d, k') → rInsEq G eqt neg v u H2 Q ∨ rp v u H2 Q := fun e => by
    obtain ⟨e3, rfl⟩ := M.lift_some e
    exact .inr (hp I2 H2 _ v u x y d Q s2.w (r1.step s2) (.inl r2) e3 fun I' H' w s r => q I' H' w ((s1.trans s2).trans s) r)
  cases x with
  | ins c fs =>
    have e' : (match eqt c with
    | some F => (match y.kl with
      | some _ => M.bind (F [.ins c fs, y]) fun r => (match r with
        | .bl b => M.pure (.bl (xor neg b))
        | _ => M.fail)
      | none => M.fail)
    | none => M.fail : M D) k2 = some (d, k') := e
    cases c1 : eqt c with
    | none => rw [c1] at e'; cases e'
    | some Fe =>
      rw [c1] at e'
      cases c2 : y.kl with
      | none => rw [c2] at e'; cases e'
      | some t =>
        rw [c2] at e'
        obtain ⟨r, k3, e4, e5⟩ := M.bind_some e'
        cases r with
        | bl b =>
          obtain ⟨rfl, rfl⟩ := M.pure_some e5
          obtain ⟨tu, ht, ty⟩ := tyx_of kit s2.w.inH (.inl r2) c2
          have rv := (ins_of s1.w.inH r1).sub s2.sub
          obtain ⟨a, C, dx, vs, rfl, h1, h2⟩ : ∃ a C dx vs, v = .ref a ∧ I2 a = some (.ins C dx (c.fields.zip vs)) ∧ G.cls c = some C := by
            cases rv with
            | ins h hc hl r => exact ⟨_, _, _, _, rfl, h, hc⟩
          refine .inl ⟨a, C, dx, _, c, Fe, rfl, s2.w.inH _ _ h1, h2, c1, ⟨t, tu, ht, ty⟩, rfl, G.da, G.me, I2, k2, _, .bl b, _, s2.w, .cons rv (.cons r2 .nil), e4, fun I3 H3 w s3 r3 => ?_⟩
          cases r3
          exact ⟨b, rfl, q I3 H3 _ ((s1.trans s2).trans s3) (.bl _)⟩
        | _ => cases e5
  | _ => exact plain e
theorem rd_eqX : RDB G (rEqD G.K) (fun x y => (cEqP x y).map (xor false)) := by
  have e : (fun x y => (cEqP x y).map (xor false)) = cEqP := by
    funext x y
    cases cEqP x y with
    | none => rfl
    | some b => cases b <;> rfl
  rw [e]; exact rd_eqP
theorem rd_neX : RDB G (rNeD G.K) (fun x y => (cEqP x y).map (xor true)) := by
  have e : (fun x y => (cEqP x y).map (xor true)) = cNeP := by
    funext x y
    simp only [cNeP]
    cases cEqP x y with
    | none => rfl
    | some b => cases b <;> rfl
  rw [e]; exact rd_neP
def dEqB (eqt : Eqt) (neg : Bool) (f g : Sem) : SemB := fun ρ => M.bind (dEq eqt neg f g ρ) fun d => match d with
  | .bl b => M.pure b
  | _ => M.fail
theorem td_eqB {eqt : Eqt} {neg : Bool} {f g : Sem} {rp : R2} (kit : KitOk G) (hp : RDB G rp (fun x y => (cEqP x y).map (xor neg))) {σ : List (Option V)} {H : Hp} {Q : Bool → Hp → Prop} (hq : tDB G (dEqB eqt neg f g) σ H Q) :
    tOp (fun x y H Q => rInsEq G eqt neg x y H Q ∨ rp x y H Q) (tDR G f) (tD G g) σ H (fun x H' => ∃ k, x = .bl k ∧ Q k H') := by
  obtain ⟨I0, H0, I, k, ρ, d, k', F, e, q⟩ := hq
  obtain ⟨x, k1, e1, e2⟩ := M.bind_some e
  cases x with
  | bl b =>
    obtain ⟨rfl, rfl⟩ := M.pure_some e2
    exact td_eq kit hp ⟨I0, H0, I, k, ρ, _, _, F, e1, fun I' H' v s r => by cases r; exact ⟨_, rfl, q I' H' s⟩⟩
  | _ => cases e2
section
variable {eqt : Eqt} {f g : Sem} (hK : X.K = G.K) (kit : KitOk G) (hE : EqOk G X eqt) (hu : X.A.units + 64 < cLine) (ha : DR G X a f) (hb : DE G X b g)
include hK kit hE hu ha hb
theorem de_eq (hm : behindInMarks .Eq b = false) : DE G X (.Compare a [.Eq] [b] pos) (dEq eqt false f g) :=
  PE.mono (pe_cmpR (OpR.or (op_insEq hK kit hE) (op_eqD hu)) ha hb hm) fun σ H Q hq => by rw [hK]; exact td_eq kit rd_eqX hq
theorem de_ne (hm : behindInMarks .NotEq b = false) : DE G X (.Compare a [.NotEq] [b] pos) (dEq eqt true f g) :=
  PE.mono (pe_cmpR (OpR.or (op_insNe hK kit hE) (op_neD hu)) ha hb hm) fun σ H Q hq => by rw [hK]; exact td_eq kit rd_neX hq
theorem dt_eq (hm : behindInMarks .Eq b = false) : DT G X (.Compare a [.Eq] [b] pos) (dEqB eqt false f g) :=
  PT.mono (pt_cmpR (OpR.or (op_insEq hK kit hE) (op_eqD hu)) ha hb hm) fun σ H Q hq => by rw [hK]; exact td_eqB kit rd_eqX hq
theorem dt_ne (hm : behindInMarks .NotEq b = false) : DT G X (.Compare a [.NotEq] [b] pos) (dEqB eqt true f g) :=
  PT.mono (pt_cmpR (OpR.or (op_insNe hK kit hE) (op_neD hu)) ha hb hm) fun σ H Q hq => by rw [hK]; exact td_eqB kit rd_neX hq
end
end
end Sky

end
section
-- SkyM: what the head tells of a program, by names; the bundle of a walk. 
namespace Sky
open PySem PySem.Spec PyProof.Rows L2
def Cn.name : Cn → Str
  | .Turn => "Turn" | .Book => "Book" | .Picture => "Picture" | .Only => "Only" | .Two => "Two" | .Nowhere => "Nowhere"
  | .Tells => "Tells" | .Mistaken => "Mistaken" | .Same => "Same" | .Differ => "Differ" | .Way => "Way" | .Ways => "Ways"
  | .NoWay => "NoWay" | .Apart => "Apart" | .Mixed => "Mixed" | .NoBodies => "NoBodies" | .Mended => "Mended" | .Stuck => "Stuck"
  | .View => "View" | .Whole => "Whole" | .Lacks => "Lacks" | .OnlyHour => "OnlyHour" | .Hours => "Hours"
  | .NoHour => "NoHour" | .Index => "Index" | .Desk => "Desk" | .Word => "Word" | .Reader => "Reader"
def allCn : List Cn := [.Turn, .Book, .Picture, .Only, .Two, .Nowhere, .Tells, .Mistaken, .Same, .Differ, .Way, .Ways, .NoWay, .Apart, .Mixed, .NoBodies, .Mended, .Stuck, .View, .Whole, .Lacks, .OnlyHour, .Hours, .NoHour, .Index, .Desk, .Word, .Reader]
theorem mem_allCn (c : Cn) : c ∈ allCn := by cases c <;> decide
def clsG (K : PySem.W.Frag) (c : Cn) : Option Addr := match PySem.W.nsIn K mainGlobals c.name with
  | some (some (.ref a)) => some a
  | _ => none
def basKl : List Kl := [.non, .bool, .int, .str, .tuple, .list, .dict]
def Kl.uK (K : PySem.W.Frag) : Kl → Option Value
  | .non => some (.type "NoneType") | .bool => some (.type "bool") | .int => some (.type "int") | .str => some (.type "str") | .tuple => some (.type "tuple") | .list => some (.type "list") | .dict => some (.type "dict")
  | .own c => (clsG K c).map .ref
/-- the classes of the program, as the written part has them -/
def clsChk (K : PySem.W.Frag) (all : List Kl) (c : Cn) : Bool := match clsG K c with
  | none => false
  | some C => PySem.W.plainGet K C Str.empty && (PySem.W.hasDictIn K C && (PySem.W.plainOver K C && (He.eqO (PySem.W.findIn K (.ref C) "__setattr__") (some (some (.builtin "object.__setattr__"))) &&
    ((c.fields.all fun f => He.eqO (PySem.W.findIn K (.ref C) f) (some none)) && (He.eqO (PySem.W.findIn K (.ref C) "__class__") (some (some (.builtin "object.__class__"))) &&
    (decide (PySem.W.mroIn K C (.type "object") = some true) && (He.eqO (PySem.W.findIn K (.ref C) "__ne__") (some (some (.builtin "object.__ne__"))) && (decide (PySem.W.subIn K (.ref C) (.type "object") = some true) &&
    all.all fun t => match t.uK K with
      | some a => PySem.W.notFirst K C a
      | none => true))))))))
def kitChk (cs : List Cn) (K : PySem.W.Frag) : Bool := (allCn.all fun c => decide (c ∈ cs) || (clsG K c).isNone) && ((cs.all fun c => clsChk K (basKl ++ cs.map Kl.own) c) &&
  (He.eqO (PySem.W.specialIn K (.builtin "object.__class__") "__get__") (some (some (.builtin "getset_descriptor.__get__"))) && (decide (PySem.W.takesIn K (.builtin "object.__class__") = some true) &&
  ((basKl ++ cs.map Kl.own).all fun t => (basKl ++ cs.map Kl.own).all fun u => match t.uK K, u.uK K with
    | some a, some b => decide (PySem.W.kitOne K a b = some (t.sub u))
    | _, _ => true))))
theorem uK_u {G : Gh} (h : G.cls = clsG G.K) (t : Kl) : t.u G = t.uK G.K := by cases t <;> first | rfl | (show (G.cls _).map Value.ref = _; rw [h]; rfl)
theorem kitOk_of {G : Gh} {cs : List Cn} (h : G.cls = clsG G.K) (c : kitChk cs G.K = true) : KitOk G := by
  obtain ⟨c1, c⟩ := He.ba c
  obtain ⟨c2, c⟩ := He.ba c
  obtain ⟨c3, c⟩ := He.ba c
  obtain ⟨c4, c5⟩ := He.ba c
  have mem : ∀ c C, G.cls c = some C → c ∈ cs := fun c C e => by
    have := List.all_eq_true.mp c1 c (mem_allCn c)
    rcases Bool.or_eq_true_iff.mp this with z | z
    · exact of_decide_eq_true z
    · rw [h] at e; rw [e] at z; cases z
  have memK : ∀ (t : Kl) (a : Value), t.u G = some a → t ∈ basKl ++ cs.map Kl.own := fun t a e => by
    cases t with
    | own c =>
      have e' : (G.cls c).map Value.ref = some a := e
      cases q : G.cls c with
      | none => rw [q] at e'; cases e'
      | some C => exact List.mem_append_right _ (List.mem_map_of_mem (mem c C q))
    | _ => exact List.mem_append_left _ (by decide)
  have cc : ∀ c C, G.cls c = some C → clsChk G.K (basKl ++ cs.map Kl.own) c = true := fun c C e => List.all_eq_true.mp c2 c (mem c C e)
  have cc' : ∀ c C, G.cls c = some C → (PySem.W.plainGet G.K C Str.empty && (PySem.W.hasDictIn G.K C && (PySem.W.plainOver G.K C && (He.eqO (PySem.W.findIn G.K (.ref C) "__setattr__") (some (some (.builtin "object.__setattr__"))) &&
    ((c.fields.all fun f => He.eqO (PySem.W.findIn G.K (.ref C) f) (some none)) && (He.eqO (PySem.W.findIn G.K (.ref C) "__class__") (some (some (.builtin "object.__class__"))) &&
    (decide (PySem.W.mroIn G.K C (.type "object") = some true) && (He.eqO (PySem.W.findIn G.K (.ref C) "__ne__") (some (some (.builtin "object.__ne__"))) && (decide (PySem.W.subIn G.K (.ref C) (.type "object") = some true) &&
    (basKl ++ cs.map Kl.own).all fun t => match t.uK G.K with
      | some a => PySem.W.notFirst G.K C a
      | none => true))))))))) = true := fun c C e => by
    have q := cc c C e
    unfold clsChk at q
    rw [h] at e
    rw [e] at q
    exact q
  refine ⟨fun t u a b e1 e2 => ?_, fun c C e => ?_, fun c C e => ?_, He.eqO_ok c3, of_decide_eq_true c4, fun c C e => ?_, fun c C t a e e1 => ?_, fun c C e => ?_, fun c C e => ?_⟩
  · have q := List.all_eq_true.mp (List.all_eq_true.mp c5 t (memK t a e1)) u (memK u b e2)
    rw [uK_u h] at e1 e2
    rw [e1, e2] at q
    exact of_decide_eq_true q
  · obtain ⟨q1, q⟩ := He.ba (cc' c C e)
    obtain ⟨q2, q⟩ := He.ba q
    obtain ⟨q3, q⟩ := He.ba q
    obtain ⟨q4, q⟩ := He.ba q
    obtain ⟨q5, q⟩ := He.ba q
    exact ⟨⟨q1, q2, q3, He.eqO_ok q4⟩, fun f hf => He.eqO_ok (List.all_eq_true.mp q5 f hf)⟩
  · obtain ⟨_, q⟩ := He.ba (cc' c C e)
    obtain ⟨_, q⟩ := He.ba q
    obtain ⟨_, q⟩ := He.ba q
    obtain ⟨_, q⟩ := He.ba q
    obtain ⟨_, q⟩ := He.ba q
    obtain ⟨q6, q⟩ := He.ba q
    exact He.eqO_ok q6
  · obtain ⟨_, q⟩ := He.ba (cc' c C e)
    obtain ⟨_, q⟩ := He.ba q
    obtain ⟨_, q⟩ := He.ba q
    obtain ⟨_, q⟩ := He.ba q
    obtain ⟨_, q⟩ := He.ba q
    obtain ⟨_, q⟩ := He.ba q
    obtain ⟨q7, q⟩ := He.ba q
    exact of_decide_eq_true q7
  · obtain ⟨_, q⟩ := He.ba (cc' c C e)
    obtain ⟨_, q⟩ := He.ba q
    obtain ⟨_, q⟩ := He.ba q
    obtain ⟨_, q⟩ := He.ba q
    obtain ⟨_, q⟩ := He.ba q
    obtain ⟨_, q⟩ := He.ba q
    obtain ⟨_, q⟩ := He.ba q
    obtain ⟨_, q⟩ := He.ba q
    obtain ⟨_, q⟩ := He.ba q
    have q2 := List.all_eq_true.mp q t (memK t a e1)
    rw [uK_u h] at e1
    rw [e1] at q2
    exact q2
  · obtain ⟨_, q⟩ := He.ba (cc' c C e)
    obtain ⟨_, q⟩ := He.ba q
    obtain ⟨_, q⟩ := He.ba q
    obtain ⟨_, q⟩ := He.ba q
    obtain ⟨_, q⟩ := He.ba q
    obtain ⟨_, q⟩ := He.ba q
    obtain ⟨_, q⟩ := He.ba q
    obtain ⟨q8, q⟩ := He.ba q
    exact He.eqO_ok q8
  · obtain ⟨_, q⟩ := He.ba (cc' c C e)
    obtain ⟨_, q⟩ := He.ba q
    obtain ⟨_, q⟩ := He.ba q
    obtain ⟨_, q⟩ := He.ba q
    obtain ⟨_, q⟩ := He.ba q
    obtain ⟨_, q⟩ := He.ba q
    obtain ⟨_, q⟩ := He.ba q
    obtain ⟨_, q⟩ := He.ba q
    obtain ⟨q9, q⟩ := He.ba q
    exact of_decide_eq_true q9

-- ### written tuples of texts 
def strV : Value → Option Str
  | .str x _ => some x
  | _ => none
def tupAt (K : PySem.W.Frag) (a : Addr) (zs : List Str) : Bool := match K.lookup a with
  | some o => decide (o.cls = .type "tuple") && (match o.data with
    | .seq its _ => Nat.ble its.size 1000 && decide (its.toList.map strV = zs.map some)
    | _ => false)
  | none => false
def tupChk (K : PySem.W.Frag) (x : Str) (zs : List Str) : Bool := match PySem.W.nsIn K mainGlobals x with
  | some (some (.ref a)) => tupAt K a zs
  | _ => true
def hands3 : List Str := ["plain", "mirrored", "either"]
def kitChk2 (cs : List Cn) (K : PySem.W.Frag) : Bool := kitChk cs K && tupChk K "HANDS" hands3
theorem vals_strs : ∀ {us : List Value} {zs : List Str}, us.map strV = zs.map some → Vals (zs.map V.str) us
  | [], [], _ => .nil
  | [], _ :: _, h => by cases h
  | _ :: _, [], h => by cases h
  | u :: us, z :: zs, h => by
    simp only [List.map_cons, List.cons.injEq] at h
    refine .cons ?_ (vals_strs h.2)
    have h1 := h.1
    cases u <;> first | (cases h1; exact ⟨_, rfl⟩) | (cases h1)
theorem tupAt_sq {K : PySem.W.Frag} {a : Addr} {zs : List Str} (h : tupAt K a zs = true) (H : Hp) : SqT K H a (zs.map V.str) := by
  unfold tupAt at h
  split at h
  · rename_i o ho
    obtain ⟨h1, h2⟩ := He.ba h
    split at h2
    · rename_i its n hd
      obtain ⟨h3, h4⟩ := He.ba h2
      have := Nat.le_of_ble_eq_true h3
      exact .inr ⟨o, its, n, ho, of_decide_eq_true h1, hd, by rw [sizeLine_eq]; omega, vals_strs (of_decide_eq_true h4)⟩
    · cases h2
  · cases h
theorem repL_strs {G : Gh} {I : Hp} : ∀ {zs : List Str}, RepL G I (zs.map V.str) (zs.map D.str)
  | [] => .nil
  | _ :: _ => .cons (.str _) repL_strs

-- ### the Hook 
def obsC (cs : List Cn) (fa : List He.Fa) (fn : List He.DefD) (K : PySem.W.Frag) : He.AlD := ((kitChk2 cs K && (fa.all fun f => f.ok K)) && fn.all fun d => d.ok K, fn.map fun d => He.fnW K d.at_)
def SaysC (cs : List Cn) (fa : List He.Fa) (fn : List He.DefD) (K : PySem.W.Frag) : Prop := obsC cs fa fn K = He.valD fn
def obsCG (n : Nat) (cs : List Cn) (fa : List He.Fa) (fn : List He.DefD) (g : Addr → Option Obj) : He.AlD := obsC cs fa fn (He.frG g (He.asD g n))
def hookC (n : Nat) (cs : List Cn) (fa : List He.Fa) (fn : List He.DefD) : PySem.W.Hook where
  α := He.AlD
  obs := fun s => obsCG n cs fa fn s.heap.get?
  val := fun _ => He.valD fn
  says := fun _ h => ∃ K : PySem.W.Frag, K.In h ∧ SaysC cs fa fn K
  of := fun _ _ e => ⟨_, He.frG_in, e⟩
  keeps := fun _ _ _ ⟨K, hK, c⟩ k => ⟨K, PySem.W.Frag.In.keeps hK k, c⟩
theorem obsCG_eq {n : Nat} {cs : List Cn} {fa : List He.Fa} {fn : List He.DefD} {g : Addr → Option Obj} {s : Shared} (h : ∀ a, g a = s.heap.get? a) : obsCG n cs fa fn g = (hookC n cs fa fn).obs s := by
  have e : g = s.heap.get? := funext h
  rw [e] <;> rfl
section
variable {cs : List Cn} {fa : List He.Fa} {fn : List He.DefD} {K : PySem.W.Frag}
theorem SaysC.fact (c : SaysC cs fa fn K) (i : Nat) {f : He.Fa} (h : fa[i]? = some f) : f.ok K = true := by
  have c1 := (He.ba (He.ba (show ((kitChk2 cs K && (fa.all fun f => f.ok K)) && fn.all fun d => d.ok K) = true from congrArg (fun z : He.AlD => z.1) c)).1).2
  exact List.all_eq_true.mp c1 f (List.mem_of_getElem? h)
theorem SaysC.kit2 (c : SaysC cs fa fn K) : kitChk2 cs K = true :=
  (He.ba (He.ba (show ((kitChk2 cs K && (fa.all fun f => f.ok K)) && fn.all fun d => d.ok K) = true from congrArg (fun z : He.AlD => z.1) c)).1).1
theorem SaysC.kit (c : SaysC cs fa fn K) : kitChk cs K = true := (He.ba c.kit2).1
theorem SaysC.hands (c : SaysC cs fa fn K) (h : (He.Fa.glo "HANDS").ok K = true) : tupAt K (He.ga K "HANDS") hands3 = true := by
  have q := (He.ba c.kit2).2
  unfold tupChk at q
  rw [He.eqO_ok h] at q
  exact q
theorem SaysC.def_ (c : SaysC cs fa fn K) (i : Nat) {d : He.DefD} (h : fn[i]? = some d) : ∃ fd, FunD K d.name d.qual d.params d.body d.scope (d.dvs K) (d.kws K) (He.fAd K d.at_) fd := by
  have c2 := (He.ba (show ((kitChk2 cs K && (fa.all fun f => f.ok K)) && fn.all fun d => d.ok K) = true from congrArg (fun z : He.AlD => z.1) c)).2
  have e : fn.map (fun d => He.fnW K d.at_) = fn.map He.DefD.val := congrArg (fun z : He.AlD => z.2) c
  have e2 : (fn.map fun d => He.fnW K d.at_)[i]? = (fn.map He.DefD.val)[i]? := by rw [e]
  rw [List.getElem?_map, List.getElem?_map, h] at e2
  exact He.DefD.funD (Option.some.inj e2) (List.all_eq_true.mp c2 d (List.mem_of_getElem? h))
end

-- ### the bundle 
structure Bun (cs : List Cn) (fa : List He.Fa) (fn : List He.DefD) where
  P : Program
  w : World
  K : PySem.W.Frag
  mg : Str → Option Value
  base : Heap
  sa : Addr
  ns : List Int
  hIn : K.In base
  hNs : base.Ns mainGlobals mg
  say : SaysC cs fa fn K
section
variable {cs : List Cn} {fa : List He.Fa} {fn : List He.DefD} (B : Bun cs fa fn)
def Bun.G (da : Option Addr) (me : Option (Addr × Addr × Addr)) : Gh := ⟨B.K, clsG B.K, B.sa, B.ns, da, me⟩
abbrev Bun.X (N : List Str) (qual : Str) (scope : Scope) (f : Addr) (cd : Value) (A : Around) (outer : List PySem.Env) (s : Shared) (H : Hp) (E : XK) : Cx := cxB B.P B.w B.K B.mg B.base N qual scope f cd A outer s H E
/-- a context of this bundle, with room -/
structure Bun.In (X : Cx) (k : Nat) : Prop where
  prog : X.prog = B.P
  w : X.w = B.w
  K : X.K = B.K
  mg : X.mg = B.mg
  base : X.base = B.base
  room : Room k X.A
variable {B}
theorem Bun.kit {da : Option Addr} {me : Option (Addr × Addr × Addr)} : KitOk (B.G da me) := kitOk_of rfl B.say.kit
theorem Bun.glo (i : Nat) {x : Str} (h : fa[i]? = some (.glo x)) : B.mg x = some (.ref (He.ga B.K x)) := He.glo_ok B.hIn B.hNs (B.say.fact i h)
theorem Bun.free (i : Nat) {x : Str} (h : fa[i]? = some (.free x)) : B.mg x = none := He.free_ok B.hIn B.hNs (B.say.fact i h)
/-- a def keeps its promise -/
def Bun.Ok (B : Bun cs fa fn) (p : Str × Option Str) (k n : Nat) (F : Fn) : Prop := ∃ (fd : FuncData) (ps : List Str), PySem.W.keepIn B.K (.ref (He.fAd B.K p)) = true ∧ FnOk B.P B.w B.K B.mg B.base CX0 k (He.fAd B.K p) fd ps (spM (B.G none none) n F) ∧ Binds B.K fd ps []
def Bun.OkI (B : Bun cs fa fn) (c : Cn) (k n : Nat) (F : FnI) : Prop := ∃ (fd : FuncData) (ps : List Str), FnOk B.P B.w B.K B.mg B.base CX0 k (He.fAd B.K (c.name, some "__init__")) fd ps (spI (B.G none none) c n F) ∧ Binds B.K fd ps []
section
variable {k : Nat} {X : Cx} {da : Option Addr} {me : Option (Addr × Addr × Addr)}
theorem Bun.call {x : Str} {j n : Nat} {F : Fn} (h : B.Ok (x, none) j n F) (i : B.In X k) (hj : j ≤ k) (g : B.mg x = some (.ref (He.ga B.K x))) : CallOk (B.G da me) X x n F := by
  obtain ⟨fd, ps, h1, h2, h3⟩ := h
  obtain ⟨P, w, K, mg, base, A⟩ := X
  obtain ⟨rfl, rfl, rfl, rfl, rfl, hr⟩ := i
  exact ⟨j, _, fd, ps, g, h1, h2, hr.mono hj, h3⟩
theorem Bun.make {c : Cn} {x : Str} {j n : Nat} {F : FnI} (h : B.OkI c j n F) (i : B.In X k) (hj : j + 1 ≤ k) (hx : x = c.name) (g : B.mg x = some (.ref (He.ga B.K x))) (hm : (He.Fa.mkr x).ok B.K = true) (hg : (He.Fa.glo x).ok B.K = true) : MakeOk (B.G da me) X x c n F := by
  obtain ⟨fd, ps, h2, h3⟩ := h
  obtain ⟨P, w, K, mg, base, A⟩ := X
  obtain ⟨rfl, rfl, rfl, rfl, rfl, hr⟩ := i
  subst hx
  refine ⟨j, _, He.ga B.K c.name, fd, ps, g, ?_, He.mkr_ok hm, h2, hr.mono hj, h3⟩
  show clsG B.K c = _
  unfold clsG
  rw [He.eqO_ok hg]
theorem cls_ga {c : Cn} {C : Addr} (h : clsG B.K c = some C) : C = He.ga B.K c.name := by
  unfold clsG at h
  unfold He.ga
  split at h
  · cases h; rename_i e; rw [e]
  · cases h
theorem Bun.meth {c : Cn} {m : Str} {j n : Nat} {F : Fn} (h : B.Ok (c.name, some m) j (n + 1) F) (i : B.In X k) (hj : j ≤ k) (hf : m ∉ c.fields) (hm : (He.Fa.meth c.name m).ok B.K = true) : MethOk (B.G da me) X c m n F := by
  intro C hC
  obtain rfl := cls_ga hC
  have cl := (B.kit (da := da) (me := me)).cls c _ hC
  obtain ⟨fd, ps, h1, h2, h3⟩ := h
  obtain ⟨P, w, K, mg, base, A⟩ := X
  obtain ⟨rfl, rfl, rfl, rfl, rfl, hr⟩ := i
  exact ⟨j, _, fd, ps, cl.cl, He.meth_ok hm, h2, hr.mono hj, h3, hf⟩
def Bun.EqRow (B : Bun cs fa fn) (k : Nat) (eqt : Eqt) : Prop := ∀ c F, eqt c = some F → ∃ j, j + 1 ≤ k ∧ B.Ok (c.name, some "__eq__") j 2 F ∧ (He.Fa.meth c.name "__eq__").ok B.K = true
theorem Bun.eqOk {eqt : Eqt} (h : B.EqRow k eqt) (i : B.In X k) : EqOk (B.G da me) X eqt := by
  intro c F C e hC
  obtain rfl := cls_ga hC
  obtain ⟨j, hj, ⟨fd, ps, h1, h2, h3⟩, hm⟩ := h c F e
  obtain ⟨P, w, K, mg, base, A⟩ := X
  obtain ⟨rfl, rfl, rfl, rfl, rfl, hr⟩ := i
  exact ⟨j, _, fd, ps, He.meth_ok hm, h2, hr.mono hj, h3⟩
/-- THE RULE for a def of data -/
theorem Bun.ok {p : Str × Option Str} {x qual : Str} {params : Arguments} {body : List Stmt} {scope : Scope} {fd : FuncData} {N ps : List Str} {S : SemS} (F : FunD B.K x qual params body scope [] [] (He.fAd B.K p) fd) (sc : FnScope N ps scope)
    (hb : ∀ (kV doc pm : Value) (an : Option Addr) (cdv ct : Value) (us : List Value), us.length = ps.length → bindArgs (PySem.W.fnOf x qual params body scope .none kV doc pm an cdv ct) ⟨us, []⟩ = pure (ps.zip us))
    (h : ∀ da me cdv A outer s H E, B.In (B.X N qual scope (He.fAd B.K p) cdv A outer s H E) k → DSs (B.G da me) (B.X N qual scope (He.fAd B.K p) cdv A outer s H E) body S) : B.Ok p (k + 1) ps.length (runB N.length S) :=
  ⟨fd, ps, F.kp, fn_data F sc fun da me cdv A outer s H E hr => h da me cdv A outer s H E ⟨rfl, rfl, rfl, rfl, rfl, hr⟩, F.bindsN hb⟩
theorem Bun.okI {c : Cn} {n : Nat} {x qual : Str} {params : Arguments} {body : List Stmt} {scope : Scope} {fd : FuncData} {N ps : List Str} {S : SemS} (F : FunD B.K x qual params body scope [] [] (He.fAd B.K (c.name, some "__init__")) fd) (sc : FnScope N ps scope) (hn : n + 1 = ps.length)
    (hb : ∀ (kV doc pm : Value) (an : Option Addr) (cdv ct : Value) (us : List Value), us.length = ps.length → bindArgs (PySem.W.fnOf x qual params body scope .none kV doc pm an cdv ct) ⟨us, []⟩ = pure (ps.zip us))
    (h : ∀ da me cdv A outer s H E, B.In (B.X N qual scope (He.fAd B.K (c.name, some "__init__")) cdv A outer s H E) k → DSs (B.G da me) (B.X N qual scope (He.fAd B.K (c.name, some "__init__")) cdv A outer s H E) body S) : B.OkI c (k + 1) n (runI N.length c S) :=
  ⟨fd, ps, fn_init F sc hn fun da me cdv A outer s H E hr => h da me cdv A outer s H E ⟨rfl, rfl, rfl, rfl, rfl, hr⟩, F.bindsN hb⟩
end
end

-- ### comprehensions as a whole 
section
variable {G : Gh} {X : Cx} {pos : Pos}
theorem de_lc {elt tg iter : Expr} {ifs : List Expr} {scope : Scope} {own : List (Str × Nat)} {vs : List Nat} {it : SemL} {t : Tg} {c : SemB} {f : Sem} (hc : X.calm = true) (hN : X.N.Nodup) (hi : DI G X tg iter it) (ok : BlkOk X.N X.env.scope scope own)
    (hg : ∀ (s : Shared) (H : Hp) (C : Addr) (cl : List (Str × Addr)) (fp : List Addr), DG G (X.blk s H scope (compEnvC scope cl C X.env) fp) tg t) (ht : ∀ (s : Shared) (H : Hp) (C : Addr) (cl : List (Str × Addr)) (fp : List Addr), PTs (X.blk s H scope (compEnvC scope cl C X.env) fp) ifs (tDB G c))
    (he : ∀ (s : Shared) (H : Hp) (C : Addr) (cl : List (Str × Addr)) (fp : List Addr), DE G (X.blk s H scope (compEnvC scope cl C X.env) fp) elt f) (hs : ∀ i ∈ t.slots, i ∈ own.map (·.2)) (hf : ∀ x, foldedSetIterable iter X.env x = pure x) (hvs : own.map (·.2) = vs) :
    DE G X (.ListComp elt [⟨tg, iter, ifs, 0⟩] scope pos) (dLc vs it t c f) := by subst hvs; exact PE.mono (pe_lc hc hN hi ok hg ht he hf) fun _ _ _ h => td_lc hs h
theorem ds_setLc {i : Nat} {y : Str} {py spos : Pos} {elt tg iter : Expr} {ifs : List Expr} {scope : Scope} {own : List (Str × Nat)} {vs : List Nat} {it : SemL} {t : Tg} {c : SemB} {f : Sem} (hc : X.calm = true) (hN : X.N.Nodup) (hy : X.N[i]? = some y) (hyl : X.env.scope.names.lookup y = some .local)
    (hsw : swapsWith (.ListComp elt [⟨tg, iter, ifs, 0⟩] scope pos) (some (.Name y py)) spos.line X.env = pure true) (hi : DI G X tg iter it) (ok : BlkOk X.N X.env.scope scope own)
    (hg : ∀ (s : Shared) (H : Hp) (C : Addr) (cl : List (Str × Addr)) (fp : List Addr), DG G (X.blk s H scope (compEnvC scope cl C X.env) fp) tg t) (ht : ∀ (s : Shared) (H : Hp) (C : Addr) (cl : List (Str × Addr)) (fp : List Addr), PTs (X.blk s H scope (compEnvC scope cl C X.env) fp) ifs (tDB G c))
    (he : ∀ (s : Shared) (H : Hp) (C : Addr) (cl : List (Str × Addr)) (fp : List Addr), DE G (X.blk s H scope (compEnvC scope cl C X.env) fp) elt f) (hs : ∀ i ∈ t.slots, i ∈ own.map (·.2)) (hf : ∀ x, foldedSetIterable iter X.env x = pure x) (hvs : own.map (·.2) = vs) :
    DS G X (.Assign [.Name y py] (.ListComp elt [⟨tg, iter, ifs, 0⟩] scope pos) spos) (sAsg (dLc vs it t c f) (tgName i)) := by
  subst hvs
  exact ds_asgL (ps_setLc hc hN hy hyl hsw hi ok hg ht he hf) fun _ _ _ h => td_lc hs h
theorem dts_nil : PTs X [] (tDB G dTrue) := ⟨fun pins s σ H Q I h => pts_nil.run pins s σ H Q I (by
  obtain ⟨I0, H0, J, k, ρ, b, k', F, e, q⟩ := h
  cases e
  exact q J H (Step.refl F.w))⟩
theorem dts_one {e : Expr} {c : SemB} (h : DT G X e c) : PTs X [e] (tDB G c) := pts_one h
end
end Sky

end
section
-- SkyN: is, tuples by their order, fuels. 
namespace Sky
open PySem PySem.Spec PyProof.Rows L2
section
variable {G : Gh} {X : Cx} {pos : Pos}
def D.isNon : D → Option Bool
  | .non => some true | .scr => none | .drw => none | _ => some false
def cIs : D → D → Option Bool
  | .bl a, .bl b => some (decide (a = b))
  | x, .non => x.isNon
  | _, _ => none
def cIsNot (x y : D) : Option Bool := (cIs x y).map (!·)
def rIsD : R2 := fun x y H Q => rIsB x y H Q ∨ (y = .non ∧ Q (.bl (decide (x = .non))) H)
def rIsNotD : R2 := fun x y H Q => rNotB x y H Q ∨ (y = .non ∧ Q (.bl (!decide (x = .non))) H)
theorem op_isD : OpR X (compareOp .Is) rIsD := OpR.or op_isBl op_isN
theorem op_isNotD : OpR X (compareOp .IsNot) rIsNotD := OpR.or op_notBl op_notN
theorem isNon_rep {I H : Hp} {v : V} {d : D} {b : Bool} (h : RepB G I H v d) (e : d.isNon = some b) : decide (v = .non) = b := by
  rcases h with h | ⟨a, rfl, h, _⟩
  · cases h <;> cases e <;> rfl
  · cases d <;> first | exact False.elim h | (cases e; rfl)
theorem cIs_cases {d e : D} {b : Bool} (h : cIs d e = some b) : (∃ x y, d = .bl x ∧ e = .bl y ∧ b = decide (x = y)) ∨ (e = .non ∧ d.isNon = some b) := by
  cases e with
  | bl y =>
    cases d with
    | bl x => cases h; exact .inl ⟨x, y, rfl, rfl, rfl⟩
    | _ => cases h
  | non => cases d <;> first | exact .inr ⟨rfl, h⟩ | cases h
  | _ => cases d <;> cases h
theorem rd_is : RDB G rIsD cIs := by
  intro I H k x y d e z Q w hx hy hz q
  cases c : cIs d e with
  | none => simp only [c, Option.map] at hz; cases hz
  | some b =>
    simp only [c, Option.map] at hz; cases hz
    rcases cIs_cases c with ⟨p, p', rfl, rfl, rfl⟩ | ⟨rfl, c2⟩
    · obtain rfl := hx.bl; obtain rfl := hy.bl
      exact .inl ⟨_, _, rfl, rfl, q I H _ (Step.refl w) (.bl _)⟩
    · obtain rfl := hy.non
      refine .inr ⟨rfl, ?_⟩
      rw [isNon_rep hx c2]
      exact q I H _ (Step.refl w) (.bl _)
theorem rd_isNot : RDB G rIsNotD cIsNot := by
  intro I H k x y d e z Q w hx hy hz q
  cases c : cIs d e with
  | none => simp only [cIsNot, c, Option.map] at hz; cases hz
  | some b =>
    simp only [cIsNot, c, Option.map] at hz; cases hz
    rcases cIs_cases c with ⟨p, p', rfl, rfl, rfl⟩ | ⟨rfl, c2⟩
    · obtain rfl := hx.bl; obtain rfl := hy.bl
      exact .inl ⟨_, _, rfl, rfl, q I H _ (Step.refl w) (.bl _)⟩
    · obtain rfl := hy.non
      refine .inr ⟨rfl, ?_⟩
      rw [isNon_rep hx c2]
      exact q I H _ (Step.refl w) (.bl _)
/-- how often a loop may go: by the number in a slot -/
def fuelI (i : Nat) : Env → Nat := fun ρ => match ρ[i]? with
  | some (.val (.int n)) => n.natAbs + 2
  | _ => 0
def fuelN (n : Nat) : Env → Nat := fun _ => n
variable {cs : List Cn} {fa : List He.Fa} {fn : List He.DefD} {B : Bun cs fa fn} {k : Nat}
theorem Bun.In.blk (i : B.In X k) {s : Shared} {H : Hp} {scope : Scope} {env : PySem.Env} {fp : List Addr} : B.In (X.blk s H scope env fp) k := ⟨i.prog, i.w, i.K, i.mg, i.base, i.room⟩
theorem dss_fail {ss : List Stmt} : DSs G X ss sFail := PSs.mono pss_never fun D σ H hq => by
  obtain ⟨I0, H0, I, k, ρ, o, k', F, e, q⟩ := hq
  cases e
theorem de_int {x : Str} {j : Int} (h : ∃ t, X.mg x = some (.int j t)) (hg : Gl X x) (hd : (x == ("__debug__" : Str)) = false := by decide) : DE G X (.Name x pos) (dC (.int j)) := by
  obtain ⟨t, h⟩ := h
  exact de_const (pe_glob (v := .int j) hg h ⟨t, rfl⟩ hd) (fun _ => .int _)
theorem pe_tyB {x : Str} (T : String) (hg : Gl X x) (hm : X.mg x = none) (hv : bootBuiltins x = some (.type T)) (hn : x ≠ "__name__" := by decide) (hd : (x == ("__debug__" : Str)) = false := by decide) : PE X (.Name x pos) (tC (.ty T)) := pe_bltn hg hm hv rfl hn hd
theorem pe_own {x : Str} {C : Addr} (hg : Gl X x) (hm : X.mg x = some (.ref C)) (hd : (x == ("__debug__" : Str)) = false := by decide) : PE X (.Name x pos) (tC (.ref C)) := pe_glob hg hm rfl hd
theorem Bun.klv {c : Cn} {da : Option Addr} {me : Option (Addr × Addr × Addr)} (h : (He.Fa.glo c.name).ok B.K = true) : (Kl.own c).v (B.G da me) = some (.ref (He.ga B.K c.name)) := by
  show (clsG B.K c).map V.ref = _
  unfold clsG
  rw [He.eqO_ok h]; rfl
def eq0 : Eqt := fun _ => none
theorem Bun.eq0Ok : EqOk (B.G da me) X eq0 := fun c F C e => nomatch e
end
end Sky

end
section
-- SkyO: enumerate over lists and over tuples. 
namespace Sky
open PySem PySem.Spec PyProof.Rows L2 RZ
theorem draws_tuple {prog : Program} {w : World} {A : Around} {it l : Addr} {items : Array Value} (hh : A.handled = none) (ne : it ≠ l) :
    Draws prog w A it [it, l] items.size (fun i x => items[i]? = some x) (fun i h => h.IsTupleIter it l i ∧ h.IsTuple l items) where
  live := fun i h st => by obtain ⟨⟨o, ho, _⟩, _⟩ := st; exact ⟨o, ho⟩
  frame := fun i h h' st k => by
    obtain ⟨⟨o, ho, r⟩, ⟨ol, hl, r2⟩⟩ := st
    exact ⟨⟨o, k it (by simp) o ho, r⟩, ⟨ol, k l (by simp) ol hl, r2⟩⟩
  item := fun i s Q E hi st hQ => by
    obtain ⟨hit, hl⟩ := st
    refine nextOf_tuple_item hit hl (x := items[i]) (by simp [hi]) fun h' hit' sb => ?_
    obtain ⟨ol, ho, r⟩ := hl
    exact hQ items[i] h' s.toks (by simp [hi]) ⟨hit', ⟨ol, (sb.2 l (Ne.symm ne)).trans ho, r⟩⟩ sb
  done := fun s Q E st hE => by
    obtain ⟨hit, hl⟩ := st
    exact nextOf_tuple_end hh hit hl (by simp) hE
theorem meets_enumT_new (l : Addr) (items : Array Value) :
    Meets (Builtin.«enumerate.__new__» ⟨[.type "enumerate", .ref l], []⟩) (fun _ R s => s.heap.IsTuple l items ∧
      R (.ok (.ret (.ref (s.heap.push { cls := .type "tuple_iterator", data := .fields #[.ref l, .int 0 0] }).objs.size)))
        { s with heap := (s.heap.push { cls := .type "tuple_iterator", data := .fields #[.ref l, .int 0 0] }).push { cls := .type "enumerate", data := .fields #[.none, .bool false, .ref s.heap.objs.size, rawInt 0, .none, .none] } }) :=
  .of_wp fun prog w A R s h => by
    obtain ⟨hp, g, d, tk, os⟩ := s
    obtain ⟨hl, h⟩ := h
    have hsub := sub_enumerate
    have hL : Heap.IsTuple (Shared.heap ⟨hp, g, d, tk, os⟩) l items := hl
    wp_walk using wpAny_pyIter_tuple hL
    refine wpAny_stack_any fun st => wpAny_pure ?_
    split
    · rename_i c _ _ _ _ _
      cases (c == Value.type "enumerate")
      · wp_walk using wpAny_pyIter_tuple hL
        exact ⟨_, rfl, h⟩
      · wp_walk using wpAny_pyIter_tuple hL
        exact ⟨_, rfl, h⟩
    · wp_walk using wpAny_pyIter_tuple hL
      exact ⟨_, rfl, h⟩
section
variable {prog : Program} {w : World} {A : Around} {E : Value → Shared → Prop} {s : Shared}
theorem call_enumT {l : Addr} {items : Array Value} {Q : Value → Shared → Prop} (hL : s.heap.IsTuple l items)
    (h : ∀ h', IsEnum h' (s.heap.objs.size + 1) s.heap.objs.size 0 .none → h'.IsTupleIter s.heap.objs.size l 0 →
      (∀ b o, s.heap.get? b = some o → h'.get? b = some o) → Q (.ref (s.heap.objs.size + 1)) { s with heap := h' }) :
    wpAny (model prog w) A (call (.type "enumerate") [.ref l]) Q E s := by
  refine callType_new F.called_enumerate (by decide) (F.typeCall_enumerate_1 _) (F.newCall_enumerate_1 _) (fun obj => F.args_object_init_2 obj _) F.entry_enumerate_new (meets_enumT_new l items) ⟨hL, ?_⟩
  have hz : (s.heap.push { cls := .type "tuple_iterator", data := .fields #[.ref l, .int 0 0] }).objs.size = s.heap.objs.size + 1 := Heap.size_push ..
  show _ ∧ _
  rw [hz]
  have he := Heap.get?_push_size (s.heap.push { cls := .type "tuple_iterator", data := .fields #[.ref l, .int 0 0] })
    (o := { cls := .type "enumerate", data := .fields #[.none, .bool false, .ref s.heap.objs.size, rawInt 0, .none, .none] }) rfl
  rw [hz] at he
  exact ⟨⟨_, he, rfl⟩, h _ he ⟨_, Heap.get?_push_of_some _ (Heap.get?_push_size _ rfl), rfl, rfl⟩ fun b o x => Heap.get?_push_of_some _ (Heap.get?_push_of_some _ x)⟩
end
/-- the tuple at a, each item in a new pair -/
def IteT (K : PySem.W.Frag) (a : Addr) : It :=
  ⟨fun i H => ∃ (xs : List V) (x : V), SqT K H a xs ∧ xs[i]? = some x, fun i H v H' => ∃ T x, v = .ref T ∧ H T = none ∧ H' = upd H T (.tup [.int (i : Nat), x]) ∧ ∀ xs, SqT K H a xs → xs[i]? = some x, fun i H => ∃ xs : List V, SqT K H a xs ∧ xs.length ≤ i⟩
theorem turn_enumT {P : Program} {w : World} {K : PySem.W.Frag} {elts : List Expr} {kk : Nat} {tpos : Pos} {a e it : Addr} (hea : e ≠ a) (hia : it ≠ a) :
    Turn P w K (.Tuple elts kk tpos) (IteT K a) [e, it] e (fun i h => (∃ old, IsEnum h e it ((i : Nat) : Int) old) ∧ h.IsTupleIter it a i ∧ e ≠ it) where
  mem := by simp
  obj := fun i h st b hb => by
    obtain ⟨⟨old, he⟩, ⟨o, ho, hc, hd⟩, _⟩ := st
    have e' : b = e ∨ b = it := by simpa using hb
    rcases e' with z | z
    · rw [z]; exact ⟨_, he, fun v q => nomatch q⟩
    · rw [z]; exact ⟨o, ho, fun v q => by rw [hd] at q; cases q⟩
  keep := fun i h h' st k => let ⟨⟨old, he⟩, hi, hne⟩ := st; ⟨⟨old, k e (by simp) _ he⟩, hi.at fun o q => k it (by simp) o q, hne⟩
  item := by
    intro X hP hw hK hc i pins s σ H E I hf st hg
    subst hP hw hK
    obtain ⟨⟨old, he⟩, hit, hne⟩ := st
    obtain ⟨xs, x, hq, hx⟩ := hg
    obtain ⟨its, rv, p, hz⟩ := I.tuple hq
    obtain ⟨u, hu, ru⟩ := rv.get hx
    have hel : e < s.heap.objs.size := Heap.lt_size he
    have hil : it < s.heap.objs.size := by obtain ⟨_, q, _⟩ := hit; exact Heap.lt_size q
    have hi : i < its.length := (List.getElem?_eq_some_iff.mp hu).1
    refine wpAny_pyNext_enum_itemD (draws_tuple (items := its.toArray) (I.ok.hd hc) hia) he ⟨hit, p⟩ (by simpa using hi) hne (by simp [hne, hea]) fun v h' tk hv ho hit' hT hsz hk => ?_
    have hvu : v = u := by
      have hv' : its[i]? = some v := by simpa using hv
      rw [hu] at hv'; cases hv'; rfl
    subst hvu
    refine ⟨_, rfl, wpAny_letOwnedTupleGo_enum (s := { s with heap := h', toks := tk + 1 }) ho fun h'' he' sb => ?_⟩
    have hT2 : h''.get? s.heap.objs.size = some { cls := .type "tuple", data := .seq #[.int i tk, v] } := (sb.2 _ (Nat.ne_of_gt hel)).trans hT
    have new : ObjOk X.prog X.w (upd H s.heap.objs.size (.tup [.int (i : Nat), x])) h'' s.heap.objs.size (.tup [.int (i : Nat), x]) :=
      ⟨by show 2 ≤ sizeLine; decide, [.int i tk, v], .cons ⟨_, rfl⟩ (.cons ru .nil), ⟨_, hT2, rfl, _, rfl⟩⟩
    have I1 : Inv X pins σ (upd H s.heap.objs.size (.tup [.int (i : Nat), x])) { s with heap := h'', toks := tk + 1 } :=
      I.turnedNew (ch := [e, it]) (fun b ob hb q => (sb.2 b (fun z => hb (by simp [z]))).trans (hk b ob (fun z => hb (by simp [z])) (fun z => hb (by simp [z])) q)) hf (Nat.le_refl _) new
    refine ⟨.ref s.heap.objs.size, _, I1, rfl, ⟨_, x, rfl, I.hok.fresh (Nat.le_refl _), rfl, fun ys hy => by rw [I.tuple_inj hy hq]; exact hx⟩, ⟨⟨v, ?_⟩, hit'.1.at fun o q => (sb.2 it (Ne.symm hne)).trans q, hne⟩, fun b hb => ?_⟩
    · have e1 : ((i + 1 : Nat) : Int) = (i : Int) + 1 := by omega
      rw [e1]; exact he'
    · have hb' : b < s.heap.objs.size := by
        have e' : b = e ∨ b = it := by simpa using hb
        rcases e' with z | z
        · rw [z]; exact hel
        · rw [z]; exact hil
      rw [upd_ne (Nat.ne_of_lt hb')]
      exact (hf b hb).1
  done := by
    intro X hP hw hK hc i pins s σ H E I hf st hg
    subst hP hw hK
    obtain ⟨⟨old, he⟩, hit, hne⟩ := st
    obtain ⟨xs, hq, hx⟩ := hg
    obtain ⟨its, rv, p, hz⟩ := I.tuple hq
    obtain ⟨f0, f1, f2, f3, f4, f5⟩ := hf it (by simp)
    have hl := rv.length
    unfold pyNext
    have hT : s.TypeIs (.ref e) "enumerate" := ⟨_, he, rfl⟩
    refine wpAny_bind (wpAny_attempt (wpAny_callSpecial?_slot (name := Str.ofString "__next__") hT F.slot_enumerate_next
      (wpAny_call_entry F.slot_enumerate_next hT F.entry_enumerate_next ?_ (F.args_enumerate_next_1 _))))
    show wpAny _ _ (field (.ref e) 2 >>= _) _ _ _
    refine wpAny_bind (wpAny_field he rfl (x := .ref it) rfl ?_)
    refine wpAny_bind (nextOf_tuple_end (I.ok.hd hc) hit p (by simp; omega) fun h' x he' hx' => ?_)
    obtain ⟨o, ho, hcl⟩ := hx'
    refine wpAny_bind (wpAny_isInstance (T := "StopIteration") (b := true) ⟨o, ho, hcl⟩ isSubtype_stop ?_)
    exact wpAny_pure ⟨rfl, I.turned (t' := s.toks) (fun b o hb q => he' b o hb q) f0 f1 f3 f4 f5⟩
  self := fun A i s Q E st h => let ⟨⟨_, he⟩, _⟩ := st; wpAny_pyIter_enum he h
def iEnumA (K : PySem.W.Frag) (ta : TA) : TI := fun σ H R => ta σ H fun vs H1 => ∃ a xs, vs = [.ref a] ∧ ((SqL K H1 a xs ∧ R (Ite K a) H1) ∨ (SqT K H1 a xs ∧ R (IteT K a) H1))
theorem pi_enumA {X : Cx} {e : Expr} {ta : TA} {p pos tpos : Pos} {elts : List Expr} {kk : Nat} (hg : Gl X "enumerate") (hm : X.mg "enumerate" = none) (ha : PA X [e] ta) (hs : starEach [e] X.env = [(false, eval e X.env)]) :
    PI X (.Tuple elts kk tpos) (.Call (.Name "enumerate" p) [e] [] pos) (iEnumA X.K ta) := by
  refine ⟨fun pins s σ H R I h => ?_⟩
  refine Call_ (ld_blt I hg hm boot_enumerate (PyProof.Rows.callWith_type1 (thn (ha.run pos pins s σ H _ I h) fun us s1 ⟨vs, H1, I1, r1, q1⟩ => ?_) hs rfl))
  obtain ⟨a, xs, ex, q1⟩ := q1
  subst ex
  cases r1 with
  | cons r rr =>
    cases rr
    cases r
    have fresh2 : ∀ b, b ∈ [s1.heap.objs.size + 1, s1.heap.objs.size] → FpOk X pins H1 b := fun b hb => by
      have e' : b = s1.heap.objs.size + 1 ∨ b = s1.heap.objs.size := by simpa using hb
      have hle : s1.heap.objs.size ≤ b := by
        rcases e' with z | z
        · rw [z]; exact Nat.le_add_right _ _
        · rw [z]; exact Nat.le_refl _
      exact I1.fpOk hle (I1.hok.fresh hle)
    rcases q1 with ⟨hq, q⟩ | ⟨hq, q⟩
    · obtain ⟨its, rv, p', hz⟩ := I1.list hq
      refine call_enumerate_list p'.isList fun h' he hit hsz hk => wpAny_pyIter_enum he ?_
      have I2 : Inv X pins σ H1 { s1 with heap := h' } := I1.kept (t' := s1.toks) hk
      exact ⟨s1.heap.objs.size + 1, [s1.heap.objs.size + 1, s1.heap.objs.size], _, _, H1, rfl, I2, turn_enum a (s1.heap.objs.size + 1) s1.heap.objs.size, ⟨⟨.none, he⟩, hit, Nat.succ_ne_self _⟩, fresh2, q⟩
    · obtain ⟨its, rv, p', hz⟩ := I1.tuple hq
      obtain ⟨o1, ho1, _⟩ := id p'
      have hlt := Heap.lt_size ho1
      refine call_enumT (show s1.heap.IsTuple a its.toArray from p') fun h' he hit hk => wpAny_pyIter_enum he ?_
      have I2 : Inv X pins σ H1 { s1 with heap := h' } := I1.kept (t' := s1.toks) hk
      exact ⟨s1.heap.objs.size + 1, [s1.heap.objs.size + 1, s1.heap.objs.size], _, _, H1, rfl, I2, turn_enumT (Nat.ne_of_gt (Nat.lt_succ_of_lt hlt)) (Nat.ne_of_gt hlt), ⟨⟨.none, he⟩, hit, Nat.succ_ne_self _⟩, fresh2, q⟩
theorem walk_enumT {K : PySem.W.Frag} {a : Addr} {xs : List V} : Walk (IteT K a) xs.length (fun H => SqT K H a xs) (YPair (fun i => some (.int (i : Nat))) (fun i => xs[i]?)) := by
  refine ⟨fun i _ hi q => ⟨xs, xs[i], q, by simp [hi]⟩, fun _ q => ⟨xs, q, Nat.le_refl _⟩, fun i H v H' _ q y => ?_⟩
  obtain ⟨T, x, h1, h2, h3, h4⟩ := y
  exact ⟨T, .int (i : Nat), x, h1, h2, h3, rfl, h4 xs q⟩
def dEnumA (f : Sem) : SemL := fun ρ => M.bind (f ρ) fun x => match x with
  | .lst xs => M.pure (enumD xs)
  | .tup xs => M.pure (enumD xs)
  | _ => M.fail
section
variable {G : Gh} {X : Cx} {e : Expr} {p pos tpos : Pos} {elts : List Expr} {kk : Nat}
theorem enum_ix {n i : Nat} {u : V} (hi : i < n) (h : some (V.int (i : Nat)) = some u) : ((List.range n).map fun i : Nat => V.int (0 + i))[i]? = some u := by
  rw [List.getElem?_map, List.getElem?_range hi]
  cases h
  simp
theorem di_enumA {f : Sem} (hK : X.K = G.K) (hg : Gl X "enumerate") (hm : X.mg "enumerate" = none) (ha : DE G X e f) (hs : starEach [e] X.env = [(false, eval e X.env)]) :
    DI G X (.Tuple elts kk tpos) (.Call (.Name "enumerate" p) [e] [] pos) (dEnumA f) := PI.mono (pi_enumA hg hm (da_cons ha da_nil (by rw [hs]; rfl)) hs) fun σ H R hq => by
  obtain ⟨I0, H0, I, k, ρ, ds, k', F, e1, q⟩ := hq
  obtain ⟨x, k1, e2, e3⟩ := M.bind_some e1
  cases x <;> try cases e3
  · rename_i xs
    refine ⟨I0, H0, I, k, ρ, [.tup xs], k', F, by simp only [dCons, M.bind, e2, dNil, M.pure], fun I1 H1 vs s1 r1 => ?_⟩
    rw [hK]
    cases r1 with
    | cons h1 r1 =>
      cases r1
      cases h1 with
      | @tup a vs _ h1 g1 =>
        refine ⟨a, vs, rfl, .inr ⟨sqT_sub s1.w.inH h1, q I1 H1 _ s1 (yld_pair (n := vs.length) (xs := (List.range xs.length).map fun i : Nat => V.int (0 + i)) (by unfold rangeD; rw [List.length_map, List.length_range, g1.length, Nat.min_self]) (range_rep _ 0) g1
          ((walk_enumT (K := G.K) (a := a) (xs := vs)).mono (fun _ h => h) fun i H x H' hi _ ⟨T, u, z, e1, hT, e2, h1, h2⟩ => ⟨T, u, z, e1, hT, e2, enum_ix (by rw [← g1.length]; exact hi) h1, h2⟩) fun H I2 k2 s w => sqT_sub w.inH (sqT_sub s h1))⟩⟩
  · rename_i xs
    refine ⟨I0, H0, I, k, ρ, [.lst xs], k', F, by simp only [dCons, M.bind, e2, dNil, M.pure], fun I1 H1 vs s1 r1 => ?_⟩
    rw [hK]
    cases r1 with
    | cons h1 r1 =>
      cases r1
      cases h1 with
      | @lst a vs _ h1 g1 =>
        refine ⟨a, vs, rfl, .inl ⟨SqL.of (s1.w.inH _ _ h1), q I1 H1 _ s1 (yld_pair (n := vs.length) (xs := (List.range xs.length).map fun i : Nat => V.int (0 + i)) (by unfold rangeD; rw [List.length_map, List.length_range, g1.length, Nat.min_self]) (range_rep _ 0) g1
          ((walk_enum (K := G.K) (a := a) (xs := vs)).mono (fun _ h => h) fun i H x H' hi _ ⟨T, u, z, e1, hT, e2, h1, h2⟩ => ⟨T, u, z, e1, hT, e2, enum_ix (by rw [← g1.length]; exact hi) h1, h2⟩) fun H I2 k2 s w => SqL.of (w.inH _ _ (s _ _ h1)))⟩⟩
end
end Sky

end
section
-- SkyP: tuples by order, dicts read. 
namespace Sky
open PySem PySem.Spec PyProof.Rows L2
-- ### > of tuples 
def lexGt : List Int → List Int → Bool := fun ns ms => Ob.lexAt (fun j => decide (ns.getD j 0 = ms.getD j 0)) (fun j => decide (ms.getD j 0 < ns.getD j 0)) (decide (ns.length > ms.length)) 0 (min ns.length ms.length)
def rGtT (K : PySem.W.Frag) : R2 := fun x y H Q => ∃ (a b : Addr) (ns ms : List Int), x = .ref a ∧ y = .ref b ∧ SqT K H a (ns.map V.int) ∧ SqT K H b (ms.map V.int) ∧ Q (.bl (lexGt ns ms)) H
theorem op_gtT {X : Cx} (hu : X.A.units < cLine) : OpR X (compareOp .Gt) (rGtT X.K) := by
  intro pins s σ H x y v u Q I rx ry h
  obtain ⟨a, b, ns, ms, rfl, rfl, ha, hb, q⟩ := h
  cases rx
  cases ry
  obtain ⟨its, r1, p1, _⟩ := I.tuple ha
  obtain ⟨its2, r2, p2, _⟩ := I.tuple hb
  have i1 : IntsAre its ns := Vals.ints r1
  have i2 : IntsAre its2 ms := Vals.ints r2
  have e1 : its.toArray.size = ns.length := by rw [List.size_toArray]; exact i1.length
  have e2 : its2.toArray.size = ms.length := by rw [List.size_toArray]; exact i2.length
  have at1 : ∀ j (h1 : j < its.toArray.size), ∃ t, its.toArray[j] = .int (ns.getD j 0) t := fun j h1 => PyProof.Rows.IntsAre.int_at i1 _ _ (by simp at h1; simp [h1])
  have at2 : ∀ j (h1 : j < its2.toArray.size), ∃ t, its2.toArray[j] = .int (ms.getD j 0) t := fun j h1 => PyProof.Rows.IntsAre.int_at i2 _ _ (by simp at h1; simp [h1])
  have R := Ob.RcOp.tuples_gt (A := X.A) (s := s) (e := fun j => decide (ns.getD j 0 = ms.getD j 0)) (r := fun j => decide (ms.getD j 0 < ns.getD j 0)) p1 p2 hu (fun j h1 h2 => by
    obtain ⟨t, et⟩ := at1 j h1
    obtain ⟨t', et'⟩ := at2 j h2
    rw [et, et']
    have z : (ns.getD j 0 == ms.getD j 0) = decide (ns.getD j 0 = ms.getD j 0) := by
      by_cases q : ns.getD j 0 = ms.getD j 0
      · rw [decide_eq_true q]; exact beq_iff_eq.mpr q
      · rw [decide_eq_false q]; exact beq_eq_false_iff_ne.mpr q
    rw [← z]
    exact SeqAt.EqAt.int_int _ _ _ _) (fun j h1 h2 _ => by
    obtain ⟨t, et⟩ := at1 j h1
    obtain ⟨t', et'⟩ := at2 j h2
    rw [et, et']
    exact Ob.RcOp.gt_int _ _ _ _)
  rw [e1, e2] at R
  have z : wpAny (model X.prog X.w) X.A (compareOp .Gt (.ref a) (.ref b)) (EP X pins σ Q) X.xe s := R X.prog X.w X.xe (EP X pins σ Q) ⟨.bl _, H, I, rfl, q⟩
  exact z
section
variable {G : Gh} {X : Cx} {pos apos cpos : Pos}
def cGtA : D → D → Option Bool
  | .int i, .int j => some (decide (j < i))
  | .tup xs, .tup ys => (match intsD xs, intsD ys with
    | some ns, some ms => some (lexGt ns ms)
    | _, _ => none)
  | _, _ => none
def rGtA (K : PySem.W.Frag) : R2 := fun x y H Q => rI0 (fun i j => .bl (decide (j < i))) x y H Q ∨ rGtT K x y H Q
theorem op_gtA (hu : X.A.units < cLine) : OpR X (compareOp .Gt) (rGtA X.K) := OpR.or op_gt (op_gtT hu)
theorem rd_gtA : RDB G (rGtA G.K) cGtA := by
  intro I H k x y d e z Q w hx hy hz q
  cases c : cGtA d e with
  | none => simp only [c, Option.map] at hz; cases hz
  | some b =>
    simp only [c, Option.map] at hz; cases hz
    cases d <;> try cases c
    · cases e <;> try cases c
      obtain rfl := hx.int; obtain rfl := hy.int
      exact .inl ⟨_, _, rfl, rfl, q I H _ (Step.refl w) (.bl _)⟩
    · cases e <;> try cases c
      rename_i xs ys
      obtain ⟨a, vs, rfl, h1, r1⟩ := hx.tup w.inH
      obtain ⟨b', ws, rfl, h2, r2⟩ := hy.tup w.inH
      simp only [cGtA] at c
      cases q1 : intsD xs with
      | none => rw [q1] at c; cases c
      | some ns =>
        cases q2 : intsD ys with
        | none => rw [q1, q2] at c; cases c
        | some ms =>
          rw [q1, q2] at c; cases c
          have e1 := ints_rep r1 q1
          have e2 := ints_rep r2 q2
          subst e1 e2
          exact .inr ⟨a, b', ns, ms, rfl, rfl, h1, h2, q I H _ (Step.refl w) (.bl _)⟩

-- ### dicts 
def keyD : D → Option Key
  | .int i => some (.inl i)
  | .str x => some (.inr x)
  | _ => none
theorem key_rep {I H : Hp} {v : V} {d : D} {k : Key} (h : RepB G I H v d) (e : keyD d = some k) : v = kV k := by
  cases d <;> cases e
  · exact h.int
  · exact h.str
def valD {κ : Type} [DecidableEq κ] (ds : List (κ × D)) (k : κ) : Option D := (ds.find? fun p => decide (p.1 = k)).map (·.2)
def putD {κ : Type} [DecidableEq κ] (ds : List (κ × D)) (k : κ) (d : D) : List (κ × D) :=
  if (ds.any fun p => decide (p.1 = k)) = true then ds.map (fun p => if p.1 = k then (p.1, d) else p) else ds ++ [(k, d)]
/-- pairs of a dict stand for pairs of data -/
def KR {κ : Type} (G : Gh) (I : Hp) : List (κ × V) → List (κ × D) → Prop := Paired fun p q => p.1 = q.1 ∧ Rep G I p.2 q.2
theorem KR.of {κ : Type} {I : Hp} : ∀ {kvs : List (κ × V)} {ds : List (κ × D)}, kvs.map (·.1) = ds.map (·.1) → RepL G I (kvs.map (·.2)) (ds.map (·.2)) → KR G I kvs ds
  | [], [], _, _ => .nil
  | [], _ :: _, h, _ => by cases h
  | _ :: _, [], h, _ => by cases h
  | p :: ps, q :: qs, h, r => by
    simp only [List.map_cons, List.cons.injEq] at h
    cases r with
    | cons r1 r2 => exact .cons ⟨h.1, r1⟩ (KR.of h.2 r2)
theorem KR.keys {κ : Type} {I : Hp} {kvs : List (κ × V)} {ds : List (κ × D)} (h : KR G I kvs ds) : kvs.map (·.1) = ds.map (·.1) := by
  induction h with
  | nil => rfl
  | cons h t ih => simp only [List.map_cons, h.1, ih]
theorem KR.vals {κ : Type} {I : Hp} {kvs : List (κ × V)} {ds : List (κ × D)} (h : KR G I kvs ds) : RepL G I (kvs.map (·.2)) (ds.map (·.2)) := by
  induction h with
  | nil => exact .nil
  | cons h t ih => exact .cons h.2 ih
theorem KR.val {κ : Type} [DecidableEq κ] {I : Hp} {k : κ} {kvs : List (κ × V)} {ds : List (κ × D)} (h : KR G I kvs ds) : (∀ d, valD ds k = some d → ∃ v, valV kvs k = some v ∧ Rep G I v d) ∧ (valD ds k = none → valV kvs k = none) := by
  induction h with
  | nil => exact ⟨fun d e => by simp [valD] at e, fun _ => rfl⟩
  | @cons p q ps qs h t ih =>
    unfold valD valV at *
    by_cases c : q.1 = k
    · have c' : p.1 = k := h.1.trans c
      simp only [List.find?_cons, c, c', decide_true, Option.map_some]
      exact ⟨fun d e => by cases e; exact ⟨_, rfl, h.2⟩, fun e => by cases e⟩
    · have c' : ¬ p.1 = k := fun z => c (h.1.symm.trans z)
      simp only [List.find?_cons, c, c', decide_false]
      exact ih
theorem KR.any {κ : Type} [DecidableEq κ] {I : Hp} {k : κ} {kvs : List (κ × V)} {ds : List (κ × D)} (h : KR G I kvs ds) : (kvs.any fun p => decide (p.1 = k)) = ds.any fun p => decide (p.1 = k) := by
  induction h with
  | nil => rfl
  | cons h t ih => simp only [List.any_cons, h.1, ih]
theorem KR.map {κ : Type} [DecidableEq κ] {I : Hp} {k : κ} {v : V} {d : D} (hv : Rep G I v d) {kvs : List (κ × V)} {ds : List (κ × D)} (h : KR G I kvs ds) : KR G I (kvs.map fun p => if p.1 = k then (p.1, v) else p) (ds.map fun p => if p.1 = k then (p.1, d) else p) := by
  induction h with
  | nil => exact .nil
  | @cons p q ps qs h t ih =>
    refine .cons ?_ ih
    by_cases c : q.1 = k
    · have c' : p.1 = k := h.1.trans c
      simp only [c, c', if_true]
      exact ⟨trivial, hv⟩
    · have c' : ¬ p.1 = k := fun z => c (h.1.symm.trans z)
      simp only [c, c', if_false]
      exact h
theorem KR.app {κ : Type} {I : Hp} {kvs ms : List (κ × V)} {ds es : List (κ × D)} (h : KR G I kvs ds) (h2 : KR G I ms es) : KR G I (kvs ++ ms) (ds ++ es) := by
  induction h with
  | nil => exact h2
  | cons h t ih => exact .cons h ih
theorem KR.put {κ : Type} [DecidableEq κ] {I : Hp} {k : κ} {v : V} {d : D} (hv : Rep G I v d) {kvs : List (κ × V)} {ds : List (κ × D)} (h : KR G I kvs ds) : KR G I (putK kvs k v) (putD ds k d) := by
  unfold putK putD
  rw [h.any]
  split
  · exact h.map hv
  · exact h.app (.cons ⟨rfl, hv⟩ .nil)
theorem KR.sub {κ : Type} {I I' : Hp} (s : Sub I I') {kvs : List (κ × V)} {ds : List (κ × D)} (h : KR G I kvs ds) : KR G I' kvs ds := by
  induction h with
  | nil => exact .nil
  | cons h t ih => exact .cons ⟨h.1, h.2.sub s⟩ ih
def mergeD (acc : List (Key × D)) (more : List (Key × D)) : List (Key × D) := more.foldl (fun acc p => putD acc p.1 p.2) acc
theorem KR.merge {I : Hp} {more : List (Key × V)} {ds : List (Key × D)} (h : KR G I more ds) : ∀ {kvs : List (Key × V)} {es : List (Key × D)}, KR G I kvs es → KR G I (mergeK kvs more) (mergeD es ds) := by
  unfold mergeK mergeD
  induction h with
  | nil => intro kvs es q; exact q
  | @cons p q ps qs h t ih =>
    intro kvs es r
    simp only [List.foldl_cons]
    refine ih ?_
    rw [h.1]
    exact KR.put h.2 r
def pairsD : List D → Option (List (Key × D))
  | [] => some []
  | .tup [k, v] :: r => (match keyD k, pairsD r with
    | some k, some r => some ((k, v) :: r)
    | _, _ => none)
  | _ => none
def bDict : List D → Option D
  | [.lst xs] => (pairsD xs).map fun kvs => .dK (mergeD [] kvs)
  | _ => none
theorem pairs_rep {I H : Hp} (w : Sub I H) : ∀ {vs : List V} {ds : List D} {ps : List (Key × D)}, RepL G I vs ds → pairsD ds = some ps → ∃ (as : List Addr) (kvs : List (Key × V)), vs = as.map V.ref ∧ Paired (fun p kv => SqT G.K H p [kV kv.1, kv.2]) as kvs ∧ KR G I kvs ps
  | _, _, _, .nil, e => by cases e; exact ⟨[], [], rfl, .nil, .nil⟩
  | _, _, ps, .cons (v := v) (d := d) (ds := ds) h t, e => by
    unfold pairsD at e
    split at e
    · rename_i z; cases z
    · rename_i k v' r z
      cases z
      split at e
      · rename_i k1 r1 e1 e2
        cases e
        obtain ⟨as, kvs, rfl, p1, p2⟩ := pairs_rep w t e2
        cases h with
        | @tup a ws _ h r =>
          cases r with
          | cons ra r =>
            cases r with
            | cons rb r =>
              cases r
              have := key_rep (H := H) (.inl ra) e1
              subst this
              exact ⟨a :: as, (k1, _) :: kvs, rfl, .cons (sqT_sub w h) p1, .cons ⟨rfl, rb⟩ p2⟩
      · cases e
    · cases e
theorem bDict_ok : RDA G (fun xs H Q => ∃ (a : Addr) (ps : List Addr) (kvs : List (Key × V)), xs = [.ref a] ∧ SqL G.K H a (ps.map V.ref) ∧ Paired (fun p kv => SqT G.K H p [kV kv.1, kv.2]) ps kvs ∧
    ∀ p, H p = none → Q (.ref p) (upd H p (.dK (mergeK [] kvs)))) bDict := by
  intro I H k vs ds z Q w hp hz q
  unfold bDict at hz
  split at hz
  · rename_i xs
    obtain ⟨v, rfl, hx⟩ := paired1 hp
    cases e : pairsD xs with
    | none => rw [e] at hz; cases hz
    | some ps =>
      rw [e] at hz; cases hz
      obtain ⟨a, us, rfl, h1, r1⟩ := hx.lst w.inH
      obtain ⟨as, kvs, rfl, p1, p2⟩ := pairs_rep w.inH r1 e
      refine ⟨a, as, kvs, rfl, SqL.of h1, p1, fun p hp => ?_⟩
      have s1 := Step.laid (o := .dK (mergeK [] kvs)) w hp
      have r := (KR.merge p2 (kvs := []) (es := []) .nil).sub s1.sub
      exact q _ _ _ s1 (.dK (.inl upd_same) r.keys r.vals)
  · cases hz
def dGet1 (f g : Sem) : Sem := fun ρ => M.bind (f ρ) fun x => M.bind (g ρ) fun y => match x with
  | .dK kvs => (match keyD y with
    | some k => M.pure ((valD kvs k).getD .non)
    | none => M.fail)
  | _ => M.fail
theorem dict_rep {I H : Hp} {v : V} {ds : List (Key × D)} (w : Sub I H) (h : RepB G I H v (.dK ds)) : ∃ a kvs, v = .ref a ∧ Rd H a (.dK kvs) ∧ KR G I kvs ds := by
  rcases h with h | ⟨a, rfl, h, _⟩
  · cases h with
    | dK h hk r => exact ⟨_, _, rfl, Rd.sub w h, KR.of hk r⟩
  · obtain ⟨kvs, h, hk, r⟩ := h
    exact ⟨a, kvs, rfl, .inl h, KR.of hk r⟩
theorem de_get1 {o e : Expr} {f g : Sem} (hu : X.A.units + 64 < cLine) (ho : DR G X o f) (he : DE G X e g) (m : M1 X o "get" apos e cpos) : DE G X (.Call (.Attribute o "get" apos) [e] [] cpos) (dGet1 f g) :=
  PE.mono (pe_dget1 (Nat.lt_of_le_of_lt (Nat.add_le_add_left (by decide) _) hu) ho he m) fun σ H Q hq => by
  obtain ⟨I0, H0, I, k, ρ, d, k', F, e, q⟩ := hq
  obtain ⟨x, k1, e1, e⟩ := M.bind_some e
  obtain ⟨y, k2, e2, e⟩ := M.bind_some e
  refine ⟨I0, H0, I, k, ρ, x, k1, F, e1, fun I1 H1 v s1 r1 => ?_⟩
  cases x <;> try cases e
  rename_i kvs e0
  obtain ⟨a, ks, rfl, hr, _⟩ := dict_rep s1.w.inH r1
  refine ⟨a, rfl, .inl ⟨_, hr⟩, I0, H0, I1, k1, ρ, y, k2, F.step s1, e2, fun I2 H2 u s2 r2 => ?_⟩
  simp only at e
  cases c : keyD y with
  | none => rw [c] at e; cases e
  | some kk =>
    rw [c] at e
    obtain ⟨rfl, rfl⟩ := M.pure_some e
    obtain ⟨a', ks', ea, hr', kr⟩ := dict_rep s2.w.inH (r1.step s2)
    cases ea
    have hk := key_rep (H := H2) (.inl r2) c
    subst hk
    refine ⟨valV ks' kk, .inl ⟨ks', kk, hr', rfl, rfl⟩, ?_⟩
    cases cv : valD kvs kk with
    | none =>
      rw [cv] at q
      rw [(kr.val (k := kk)).2 cv]
      exact q I2 H2 _ (s1.trans s2) .non
    | some d' =>
      obtain ⟨v', h1, h2⟩ := (kr.val (k := kk)).1 d' cv
      rw [cv] at q
      rw [h1]
      exact q I2 H2 _ (s1.trans s2) h2
end
end Sky

end
section
-- SkyQ: the script, the draw. 
namespace Sky
open PySem PySem.Spec PyProof.Rows L2
section
variable {G : Gh} {X : Cx} {pos apos cpos p : Pos} {ns : List Int}
-- ### the script 
def dLenS (ns : List Int) (f : Sem) : Sem := fun ρ => M.bind (f ρ) fun x => match x with
  | .scr => M.pure (.int ns.length)
  | _ => M.fail
theorem de_lenS {e : Expr} {f : Sem} (hK : X.K = G.K) (hns : G.ns = ns) (hg : Gl X "len") (hm : X.mg "len" = none) (ha : DE G X e f) (h1 : starEach [e] X.env = (false, eval e X.env) :: starEach [] X.env) (h2 : (backTo pos (starEach [] X.env)).any (·.1) = false) :
    DE G X (.Call (.Name "len" p) [e] [] pos) (dLenS ns f) := PE.mono (pe_callB call_len hg hm boot_len (pa_cons ha pa_nil h1) (by decide) (by decide) h1 h2) fun σ H Q hq => by
  obtain ⟨I0, H0, I, k, ρ, d, k', F, e, q⟩ := hq
  obtain ⟨x, k1, e1, e2⟩ := M.bind_some e
  refine ⟨I0, H0, I, k, ρ, x, k1, F, e1, fun I1 H1 v s1 r1 => ?_⟩
  cases x <;> try cases e2
  cases r1
  rw [hK]
  refine ⟨_, ns.length, rfl, .inl ⟨_, s1.w.scr.sq, ?_⟩, q I1 H1 _ s1 (.int _)⟩
  rw [List.length_map, hns]
def dIxS (ns : List Int) (f g : Sem) : Sem := fun ρ => M.bind (f ρ) fun x => M.bind (g ρ) fun y => match x, y with
  | .scr, .int i => (match atI ns i with
    | some j => M.pure (.int j)
    | none => M.fail)
  | _, _ => M.fail
theorem atI_map {α β : Type} {f : α → β} {xs : List α} {i : Int} {v : α} (h : atI xs i = some v) : atI (xs.map f) i = some (f v) := by
  unfold atI at *
  rw [List.length_map]
  cases e : ixN xs.length i with
  | none => rw [e] at h; cases h
  | some j =>
    rw [e] at h
    have h' : xs[j]? = some v := h
    show (xs.map f)[j]? = some (f v)
    rw [List.getElem?_map, h']; rfl
theorem de_ixS {a b : Expr} {f g : Sem} (hK : X.K = G.K) (hns : G.ns = ns) (ha : DE G X a f) (hb : DE G X b g) (hs : PlainIx b) : DE G X (.Subscript a b pos) (dIxS ns f g) := PE.mono (pe_ix ix_seq ha hb hs) fun σ H Q hq => by
  obtain ⟨I0, H0, I, k, ρ, d, k', F, e, q⟩ := hq
  obtain ⟨x, k1, e1, e2⟩ := M.bind_some e
  obtain ⟨y, k2, e3, e4⟩ := M.bind_some e2
  refine ⟨I0, H0, I, k, ρ, x, k1, F, e1, fun I1 H1 v s1 r1 => ⟨I0, H0, I1, k1, ρ, y, k2, F.step s1, e3, fun I2 H2 u s2 r2 => ?_⟩⟩
  cases x <;> try cases e4
  cases y <;> try cases e4
  rename_i i
  simp only at e4
  cases c : atI ns i with
  | none => rw [c] at e4; cases e4
  | some j =>
    rw [c] at e4
    obtain ⟨rfl, rfl⟩ := M.pure_some e4
    cases r1
    cases r2
    rw [hK]
    refine .inl ⟨_, _, i, .int j, rfl, rfl, s2.w.scr.sq, ?_, q I2 H2 _ (s1.trans s2) (.int _)⟩
    rw [hns]
    exact atI_map c
/-- script != [] -/
def dNeS (ns : List Int) (f : Sem) : SemB := fun ρ => M.bind (f ρ) fun x => match x with
  | .scr => M.pure (!ns.isEmpty)
  | _ => M.fail
theorem dp_ints {K : PySem.W.Frag} {H : Hp} : ∀ ns : List Int, DpAll K H (ns.map V.int) (ns.map PyData.int)
  | [] => .nil
  | n :: ns => .cons (.int n) (dp_ints ns)
theorem shaped_ints (ns : List Int) : SeqAt.shaped (.list (ns.map PyData.int)) = true := by
  have h1 : ∀ ns : List Int, PyData.canLayAll0 (ns.map PyData.int) = true := fun ns => by
    induction ns with
    | nil => rfl
    | cons n ns ih => show (PyData.canLay0 (.int n) && PyData.canLayAll0 (ns.map PyData.int)) = true; rw [ih]; rfl
  have h2 : ∀ ns : List Int, PyData.depthAll (ns.map PyData.int) = 0 := fun ns => by
    induction ns with
    | nil => rfl
    | cons n ns ih => show max (PyData.depth (.int n)) (PyData.depthAll (ns.map PyData.int)) = 0; rw [ih]; rfl
  have h3 : PyData.depth (.list (ns.map PyData.int)) = 1 := by show PyData.depthAll (ns.map PyData.int) + 1 = 1; rw [h2]
  show (PyData.canLay0 (.list (ns.map PyData.int)) && decide (PyData.depth (.list (ns.map PyData.int)) ≤ 64)) = true
  rw [h3, show PyData.canLay0 (.list (ns.map PyData.int)) = true from h1 ns]; rfl
theorem dt_neS {e : Expr} {f : Sem} {pl : Pos} (hK : X.K = G.K) (hns : G.ns = ns) (hu : X.A.units + 64 < cLine) (ha : DE G X e f) (hm : behindInMarks .NotEq (.List [] pl) = false) : DT G X (.Compare e [.NotEq] [.List [] pl] pos) (dNeS ns f) :=
  PT.mono (pt_cmpR (op_neD hu) ha (pe_lst pa_nil) hm) fun σ H Q hq => by
  obtain ⟨I0, H0, I, k, ρ, d, k', F, e, q⟩ := hq
  obtain ⟨x, k1, e1, e2⟩ := M.bind_some e
  refine ⟨I0, H0, I, k, ρ, x, k1, F, e1, fun I1 H1 v s1 r1 => ⟨Nat.zero_le _, fun p hp => ?_⟩⟩
  cases x <;> try cases e2
  cases r1
  rw [hK]
  have s2 := Step.junk (o := .lst []) s1.w hp
  refine ⟨_, _, .lst s2.w.scr.sq (dp_ints G.ns), .lst (.inl (.inl upd_same)) .nil, shaped_ints _, rfl, !G.ns.isEmpty, ?_, by rw [hns]; exact q I1 _ (s1.trans s2)⟩
  cases G.ns <;> rfl
def dPow (a b : Int) : Sem := dC (.int (a ^ b.toNat))
theorem de_pow {a b : Int} {j1 j2 : Nat} {p1 p2 : Pos} (h : CPow a b) : DE G X (.BinOp (.Constant (.int a) j1 p1) .Pow (.Constant (.int b) j2 p2) pos) (dPow a b) := PE.mono (pe_op op_pow pe_int pe_int) fun σ H Q hq => by
  obtain ⟨I0, H0, I, k, ρ, d, k', F, e, q⟩ := hq
  cases e
  exact ⟨a, b, rfl, rfl, h, q I H _ (Step.refl F.w) (.int _)⟩

-- ### the draw: a list of the script and of how many were drawn 
def dDrw0 (f : Sem) : Sem := fun ρ => M.bind (f ρ) fun x => match x with
  | .drw => M.pure .scr
  | _ => M.fail
def dDrw1 (f : Sem) : Sem := fun ρ => M.bind (f ρ) fun x => match x with
  | .drw => fun k => some (.int k, k)
  | _ => M.fail
theorem de_drw0 {a : Expr} {f : Sem} {j : Nat} {cp : Pos} (hK : X.K = G.K) (ha : DE G X a f) (hs : PlainIx (.Constant (.int 0) j cp)) : DE G X (.Subscript a (.Constant (.int 0) j cp) pos) (dDrw0 f) := PE.mono (pe_ix ix_seq ha pe_int hs) fun σ H Q hq => by
  obtain ⟨I0, H0, I, k, ρ, d, k', F, e, q⟩ := hq
  obtain ⟨x, k1, e1, e2⟩ := M.bind_some e
  refine ⟨I0, H0, I, k, ρ, x, k1, F, e1, fun I1 H1 v s1 r1 => ?_⟩
  cases x <;> try cases e2
  cases r1 with
  | drw h =>
    obtain ⟨h1, h2, h3⟩ := s1.w.drw _ h
    exact .inl ⟨_, _, 0, .ref G.sa, rfl, rfl, .inl (.inl h3), rfl, q I1 H1 _ s1 .scr⟩
theorem de_drw1 {a : Expr} {f : Sem} {j : Nat} {cp : Pos} (hK : X.K = G.K) (ha : DE G X a f) (hs : PlainIx (.Constant (.int 1) j cp)) : DE G X (.Subscript a (.Constant (.int 1) j cp) pos) (dDrw1 f) := PE.mono (pe_ix ix_seq ha pe_int hs) fun σ H Q hq => by
  obtain ⟨I0, H0, I, k, ρ, d, k', F, e, q⟩ := hq
  obtain ⟨x, k1, e1, e2⟩ := M.bind_some e
  refine ⟨I0, H0, I, k, ρ, x, k1, F, e1, fun I1 H1 v s1 r1 => ?_⟩
  cases x <;> try cases e2
  cases r1 with
  | drw h =>
    obtain ⟨h1, h2, h3⟩ := s1.w.drw _ h
    exact .inl ⟨_, _, 1, .int _, rfl, rfl, .inl (.inl h3), rfl, q I1 H1 _ s1 (.int _)⟩
def rGetL : V → V → Hp → VK → Prop := fun o i H Q => ∃ p xs v, o = .ref p ∧ i = .int 1 ∧ H p = some (.lst xs) ∧ xs[1]? = some v ∧ Q v H
theorem get_one : PGet X rGetL := by
  intro pins s σ H o i ov iv Q I ro ri h
  obtain ⟨p, xs, v, rfl, rfl, hH, hx, q⟩ := h
  cases ro
  obtain ⟨t, rfl⟩ := ri
  obtain ⟨its, r, pl, hz⟩ := I.list (.inl (.inl hH))
  obtain ⟨u, hu, ru⟩ := r.get hx
  exact wpAny_getItem_list pl.isList (by decide) (by decide) (x := u) (by simpa using hu) ⟨v, H, I, ru, q⟩
theorem FI.drawn {I0 H0 I H : Hp} {k : Nat} {σ : List (Option V)} {ρ : Env} (F : FI G I0 H0 I H k σ ρ) {a : Addr} (h : G.da = some a) : FI G I0 H0 I (upd H a (.lst [.ref G.sa, .int ((k + 1 : Nat) : Int)])) (k + 1) σ ρ := by
  obtain ⟨h1, h2, h3⟩ := F.w.drw a h
  have ne : ∀ x, G.da ≠ some x → x ≠ a := fun x q z => q (by rw [z]; exact h)
  refine ⟨⟨⟨fun b u e => ?_, ?_, fun d hd => ?_⟩, F.st.sub, F.st.new, fun b u e q => ?_⟩, F.len, F.val, fun i d e => ?_, F.dis, fun i c ds e => ?_, F.one⟩
  · have nb : b ≠ a := fun z => by rw [z, h2] at e; cases e
    rw [upd_ne nb]; exact F.w.inH b u e
  · rcases F.w.scr with ⟨u, e⟩ | e
    · refine .inl ⟨u, ?_⟩
      have nb : G.sa ≠ a := fun z => by rw [z, h3] at e; cases e
      rw [upd_ne nb]; exact e
    · exact .inr e
  · rw [h] at hd; cases hd
    exact ⟨h1, h2, upd_same⟩
  · rw [upd_ne (ne b q)]; exact F.st.same b u e q
  · obtain ⟨b, g1, g2, g3, g4, g5⟩ := F.own i d e
    exact ⟨b, g1, g2.upd (ne b g5), g3, g4, g5⟩
  · obtain ⟨x, dx, C, vs, g1, g2, g3, g4, g5, g6, g7, g8, g9⟩ := F.me i c ds e
    exact ⟨x, dx, C, vs, g1, g2, by rw [upd_ne (ne x g9)]; exact g3, g4, g5, g6, g7, g8, g9⟩
/-- draw[1] += 1 -/
def sInc (i : Nat) : SemS := fun ρ k => match ρ[i]? with
  | some (Slot.val .drw) => some (.nx ρ, k + 1)
  | _ => none
theorem ds_inc {o : Expr} {i : Nat} {j1 j2 : Nat} {c1 c2 tpos : Pos} (ho : PE X o (tVar i)) : DS G X (.AugAssign (.Subscript o (.Constant (.int 1) j1 c1) tpos) .Add (.Constant (.int 1) j2 c2) pos) (sInc i) :=
  PS.mono (ps_augS ho pe_int get_one pe_int ip_add set_list (by intros; rfl)) fun D σ H hq => by
  obtain ⟨I0, H0, I, k, ρ, o, k', F, e, q⟩ := hq
  unfold sInc at e
  cases c : ρ[i]? with
  | none => rw [c] at e; cases e
  | some sl =>
    rw [c] at e
    cases sl with
    | val d =>
      cases d with
      | drw =>
        cases e
        obtain ⟨v, h1, h2⟩ := F.val i _ c
        cases h2 with
        | @drw a h =>
          obtain ⟨g1, g2, g3⟩ := F.w.drw _ h
          refine ⟨.ref a, h1, a, _, .int k, rfl, rfl, g3, rfl, k, 1, rfl, rfl, a, _, 1, 1, rfl, rfl, g3, rfl, ?_⟩
          have := q I _ σ (F.drawn h) (fun _ _ e => e)
          simpa using this
      | _ => cases e
    | _ => cases e
end

-- ### the law's def 
mutual
theorem Rep.daN {G : Gh} {x : Option Addr} {I : Hp} (hn : G.da = none) : ∀ {v : V} {d : D}, Rep G I v d → Rep { G with da := x } I v d
  | _, _, .non => .non
  | _, _, .bl b => .bl b
  | _, _, .int i => .int i
  | _, _, .str x => .str x
  | _, _, .tup h r => .tup h (r.daN hn)
  | _, _, .lst h r => .lst h (r.daN hn)
  | _, _, .ins h hc hl r => .ins h hc hl (r.daN hn)
  | _, _, .dK h hk r => .dK h hk (r.daN hn)
  | _, _, .dT h hk r => .dT h hk (r.daN hn)
  | _, _, .scr => .scr
  | _, _, .drw h => by rw [hn] at h; cases h
theorem RepL.daN {G : Gh} {x : Option Addr} {I : Hp} (hn : G.da = none) : ∀ {v : List V} {d : List D}, RepL G I v d → RepL { G with da := x } I v d
  | _, _, .nil => .nil
  | _, _, .cons h t => .cons (h.daN hn) (t.daN hn)
end
section
variable {P : Program} {w : World} {K : PySem.W.Frag} {mg : Str → Option Value} {base : Heap} {x qual : Str} {params : Arguments} {scope : Scope} {f : Addr} {fd : FuncData} {N : List Str} {k : Nat} {B : SemS}
/-- what the law's def promises -/
def spLaw (K : PySem.W.Frag) (sa : Addr) (ns : List Int) : Sp := fun vs H Q _ => vs = [.ref sa] ∧ Only H ∧ SqL K H sa (ns.map V.int) ∧ ∀ H', Q (.bl true) H'
theorem scr_only {H : Hp} {sa : Addr} {ns : List Int} (hO : Only H) (h : SqL K H sa (ns.map V.int)) : ScrOk K H sa ns := by
  rcases h with (h | ⟨o, h⟩) | h
  · rcases hO sa with z | ⟨o, xs, z⟩
    · rw [z] at h; cases h
    · rw [z] at h; cases h
  · exact .inl ⟨o, h⟩
  · exact .inr h
theorem law_fn {cls : Cn → Option Addr} {sa : Addr} {ns : List Int} {pp pl p0 pos : Pos} {ss : List Stmt} {j : Nat} {sp : Pos} (F : FunD K x qual params (.Assign [.Name "draw" pp] (.List [.Name "script" sp, .Constant (.int 0) j p0] pl) pos :: ss) scope [] [] f fd) (S : FnScope ("script" :: "draw" :: N) ["script"] scope)
    (hl1 : Loc scope "draw") (hl0 : Loc scope "script")
    (hsw : ∀ cdv A outer s H E, swapsWith (.List [.Name "script" sp, .Constant (.int 0) j p0] pl) (some (.Name "draw" pp)) pos.line (cxB P w K mg base ("script" :: "draw" :: N) qual scope f cdv A outer s H E).env = pure false)
    (hb : ∀ da cdv A outer s H E, Room k (A.deeper (envOfC qual scope s.heap.objs.size f cdv)) → DSs ⟨K, cls, sa, ns, some da, none⟩ (cxB P w K mg base ("script" :: "draw" :: N) qual scope f cdv A outer s H E) ss B)
    (hr : ∃ k', B (.val .scr :: .val .drw :: List.replicate N.length .no) 0 = some (.ret (.bl true), k')) : FnOk P w K mg base CX0 (k + 1) f fd ["script"] (spLaw K sa ns) := by
  refine F.ok S (fun vs H Q E h => by rw [h.1]; rfl) fun cdv A outer s H vs Q E hrm h => ?_
  obtain ⟨rfl, hO, hS, q⟩ := h
  have hrest : PSs (cxB P w K mg base ("script" :: "draw" :: N) qual scope f cdv A outer s H E) ss (fun D σ H' => ∃ da, tDS ⟨K, cls, sa, ns, some da, none⟩ B D σ H') :=
    ⟨fun pins s' σ H' D I ⟨da, h⟩ => (hb da cdv A outer s H E hrm).run pins s' σ H' D I h⟩
  refine ⟨_, PSs.nox (pss_cons (ps_set (X := cxB P w K mg base ("script" :: "draw" :: N) qual scope f cdv A outer s H E) (i := 1) S.nd rfl hl1 (pe_lst (pa_cons (pe_var (i := 0) rfl (hl0.elim .inl fun h => .inr (.inl h))) (pa_cons pe_int pa_nil rfl) rfl)) (hsw cdv A outer s H E) (.inl rfl)) hrest), ?_⟩
  refine ⟨.ref sa, rfl, ?_⟩
  refine ⟨(by show 2 ≤ sizeLine; decide), fun p hp => ?_⟩
  refine ⟨p, fun _ => none, upd H p (.lst [.ref sa, .int 0]), fun _ => none, 0, .val .scr :: .val .drw :: List.replicate N.length .no, ?_⟩
  obtain ⟨k', e⟩ := hr
  have w0 : WOk ⟨K, cls, sa, ns, some p, none⟩ (fun _ => none) (upd H p (.lst [.ref sa, .int 0])) 0 := by
    refine ⟨fun a o e => (by cases (show (none : Option HO) = some o from e)), ?_, fun d hd => (by cases hd; exact ⟨trivial, rfl, upd_same⟩)⟩
    exact (scr_only hO hS).sub fun o e => by rw [upd_ne (ne_of_none e hp)]; exact e
  refine ⟨_, k', ⟨Step.refl w0, ?_, ?_, ?_, ?_, ?_, ?_⟩, e, fun I' H' v s1 r1 => by cases r1; exact q H'⟩
  · show ((L2.start ("script" :: "draw" :: N) [V.ref sa]).set 1 (some (.ref p))).length = _
    simp [L2.start]
  · intro i d h
    match i, h with
    | 0, h => cases h; exact ⟨.ref sa, rfl, .scr⟩
    | 1, h => cases h; exact ⟨.ref p, rfl, .drw rfl⟩
    | i + 2, h =>
      have h' : (List.replicate N.length Slot.no)[i]? = some (.val d) := h
      rw [List.getElem?_replicate] at h'
      split at h' <;> cases h'
  · intro i d h
    match i, h with
    | i + 2, h =>
      have h' : (List.replicate N.length Slot.no)[i]? = some (.own d) := h
      rw [List.getElem?_replicate] at h'
      split at h' <;> cases h'
  · intro i j d e a h
    match i, h with
    | i + 2, h =>
      have h' : (List.replicate N.length Slot.no)[i]? = some (.own d) := h
      rw [List.getElem?_replicate] at h'
      split at h' <;> cases h'
  · intro i c d h
    match i, h with
    | i + 2, h =>
      have h' : (List.replicate N.length Slot.no)[i]? = some (.me c d) := h
      rw [List.getElem?_replicate] at h'
      split at h' <;> cases h'
  · intro i j c e d d' h
    match i, h with
    | i + 2, h =>
      have h' : (List.replicate N.length Slot.no)[i]? = some (.me c d) := h
      rw [List.getElem?_replicate] at h'
      split at h' <;> cases h'
/-- over every script -/
theorem law_any {n : Nat} (h : ∀ sa ns, ns.length ≤ n → FnOk P w K mg base CX0 k f fd ["script"] (spLaw K sa ns)) : FnOk P w K mg base CX0 k f fd ["script"] (fun vs H Q E => ∃ sa ns, ns.length ≤ n ∧ spLaw K sa ns vs H Q E) :=
  ⟨fun vs H Q E ⟨sa, ns, hl, q⟩ => (h sa ns hl).len vs H Q E q, fun A outer s H args us vs Q E hr he hb hv ⟨sa, ns, hl, q⟩ => (h sa ns hl).run A outer s H args us vs Q E hr he hb hv q⟩
end
end Sky

end
section
-- SkyR: in, not in, by data; x op= e; comprehensions of two clauses. 
namespace Sky
open PySem PySem.Spec PyProof.Rows L2
section
variable {G : Gh} {X : Cx} {pos pos' : Pos}

-- ### in 
def memP (x : D) (ys : List D) (f : List PyData → PyData) : Option Bool := match x.py, D.pys ys with
  | some p, some qs => if (SeqAt.shaped p && SeqAt.shaped (f qs)) = true then some (qs.any fun z => PyData.eqv z p) else none
  | _, _ => none
theorem memP_some {x : D} {ys : List D} {f : List PyData → PyData} {b : Bool} (h : memP x ys f = some b) : ∃ p qs, x.py = some p ∧ D.pys ys = some qs ∧ SeqAt.shaped p = true ∧ SeqAt.shaped (f qs) = true ∧ b = qs.any fun z => PyData.eqv z p := by
  unfold memP at h
  split at h
  · rename_i p qs e1 e2
    by_cases c : (SeqAt.shaped p && SeqAt.shaped (f qs)) = true
    · rw [if_pos c] at h; cases h
      obtain ⟨c1, c2⟩ := Bool.and_eq_true_iff.mp c
      exact ⟨p, qs, e1, e2, c1, c2, rfl⟩
    · rw [if_neg c] at h; cases h
  · cases h
def signIn (x y : Str) : Option Bool := match x.cps.toList with
  | [c] => some (decide (c ∈ y.cps.toList))
  | _ => none
def cIn (x : D) : D → Option Bool
  | .lst ys => memP x ys .list
  | .tup ys => memP x ys .tuple
  | .str y => (match x with
    | .str x => signIn x y
    | _ => none)
  | _ => none
def cNotIn (x y : D) : Option Bool := (cIn x y).map (!·)
/-- by values: neg for not in -/
def rInX (K : PySem.W.Frag) (neg : Bool) : R2 := fun x y H Q =>
  (∃ p qs, Dp K H x p ∧ (Dp K H y (.list qs) ∧ SeqAt.shaped (.list qs) = true ∨ Dp K H y (.tuple qs) ∧ SeqAt.shaped (.tuple qs) = true) ∧ SeqAt.shaped p = true ∧ Q (.bl (xor neg (qs.any fun z => PyData.eqv z p))) H) ∨
  ∃ (c : Nat) (z : Str), x = .str ⟨#[c]⟩ ∧ y = .str z ∧ Q (.bl (xor neg (decide (c ∈ z.cps.toList)))) H
theorem room65 {k : Nat} {A : Around} (r : Room k A) : A.units + 65 < cLine := by have := r.un; omega
theorem op_inX (hu : X.A.units + 65 < cLine) : OpR X (compareOp .In) (rInX X.K false) := by
  intro pins s σ H x y v u Q I rx ry h
  rcases h with ⟨p, qs, hp, hq, sp, q⟩ | ⟨c, z, rfl, rfl, q⟩
  · rw [Bool.false_xor] at q
    obtain ⟨as, ra⟩ := Dp.reads I p x v hp rx
    rcases hq with ⟨hq, sq⟩ | ⟨hq, sq⟩
    · obtain ⟨bs, rb⟩ := Dp.reads I _ y u hq ry
      exact SeqAt.in_list_reads rb ra (SeqAt.canLay_of_shaped sq) (SeqAt.canLay_of_shaped sp) (room_in_shaped sp hu) ⟨.bl _, H, I, rfl, q⟩
    · obtain ⟨bs, rb⟩ := Dp.reads I _ y u hq ry
      exact SeqAt.in_tuple_reads rb ra (SeqAt.canLay_of_shaped sq) (SeqAt.canLay_of_shaped sp) (room_in_shaped sp hu) ⟨.bl _, H, I, rfl, q⟩
  · exact op_in_sign pins s σ H _ _ v u Q I rx ry ⟨c, z, rfl, rfl, by rw [Bool.false_xor] at q; exact q⟩
theorem op_notInX (hu : X.A.units + 65 < cLine) : OpR X (compareOp .NotIn) (rInX X.K true) := by
  intro pins s σ H x y v u Q I rx ry h
  rcases h with ⟨p, qs, hp, hq, sp, q⟩ | ⟨c, z, rfl, rfl, q⟩
  · rw [Bool.true_xor] at q
    obtain ⟨as, ra⟩ := Dp.reads I p x v hp rx
    rcases hq with ⟨hq, sq⟩ | ⟨hq, sq⟩
    · obtain ⟨bs, rb⟩ := Dp.reads I _ y u hq ry
      exact SeqAt.notIn_list_reads rb ra (SeqAt.canLay_of_shaped sq) (SeqAt.canLay_of_shaped sp) (room_in_shaped sp hu) ⟨.bl _, H, I, rfl, q⟩
    · obtain ⟨bs, rb⟩ := Dp.reads I _ y u hq ry
      exact SeqAt.notIn_tuple_reads rb ra (SeqAt.canLay_of_shaped sq) (SeqAt.canLay_of_shaped sp) (room_in_shaped sp hu) ⟨.bl _, H, I, rfl, q⟩
  · exact op_notIn_sign pins s σ H _ _ v u Q I rx ry ⟨c, z, rfl, rfl, by rw [Bool.true_xor] at q; exact q⟩
theorem rInX_of {neg : Bool} {I H : Hp} {k : Nat} {x y : V} {d e : D} {b : Bool} {Q : VK} (w : WOk G I H k) (hx : RepB G I H x d) (hy : RepB G I H y e) (c : cIn d e = some b) (q : Q (.bl (xor neg b)) H) : rInX G.K neg x y H Q := by
  cases e <;> simp only [cIn] at c <;> try cases c
  · rename_i y'
    cases d <;> simp only at c <;> try cases c
    rename_i x'
    obtain rfl := hx.str; obtain rfl := hy.str
    unfold signIn at c
    split at c
    · rename_i z hz
      cases c
      have ex : x' = ⟨#[z]⟩ := by
        cases x' with
        | mk a => cases a with
          | mk l => simp only at hz; rw [hz]
      subst ex
      exact .inr ⟨z, y', rfl, rfl, q⟩
    · cases c
  · obtain ⟨p, qs, e1, e2, s1, s2, rfl⟩ := memP_some c
    exact .inl ⟨p, qs, pyB w.inH hx e1, .inr ⟨pyB w.inH hy (by simp only [D.py, e2, Option.map]), s2⟩, s1, q⟩
  · obtain ⟨p, qs, e1, e2, s1, s2, rfl⟩ := memP_some c
    exact .inl ⟨p, qs, pyB w.inH hx e1, .inl ⟨pyB w.inH hy (by simp only [D.py, e2, Option.map]), s2⟩, s1, q⟩
theorem rd_in : RDB G (rInX G.K false) cIn := by
  intro I H k x y d e z Q w hx hy hz q
  cases c : cIn d e with
  | none => simp only [c, Option.map] at hz; cases hz
  | some b =>
    simp only [c, Option.map] at hz; cases hz
    exact rInX_of w hx hy c (by rw [Bool.false_xor]; exact q I H _ (Step.refl w) (.bl _))
theorem rd_notIn : RDB G (rInX G.K true) cNotIn := by
  intro I H k x y d e z Q w hx hy hz q
  cases c : cIn d e with
  | none => simp only [cNotIn, c, Option.map] at hz; cases hz
  | some b =>
    simp only [cNotIn, c, Option.map] at hz; cases hz
    exact rInX_of w hx hy c (by rw [Bool.true_xor]; exact q I H _ (Step.refl w) (.bl _))

/-- a global name that holds a written tuple of texts -/
theorem de_hands {cs : List Cn} {fa : List He.Fa} {fn : List He.DefD} {B : Bun cs fa fn} {da : Option Addr} {me : Option (Addr × Addr × Addr)} (i : Nat) (hf : fa[i]? = some (.glo "HANDS")) (hg : Gl X "HANDS") (hm : X.mg = B.mg) (hd : (("HANDS" : Str) == ("__debug__" : Str)) = false := by decide) :
    DE (B.G da me) X (.Name "HANDS" pos) (dC (.tup (hands3.map .str))) := by
  refine de_const (v := V.ref (He.ga B.K "HANDS")) (pe_glob hg (by rw [hm]; exact Bun.glo i hf) rfl hd) fun I => ?_
  exact .tup (tupAt_sq (B.say.hands (B.say.fact i hf)) I) repL_strs

-- ### x op= e 
def sAug (i : Nat) (g : D → D → Option D) (f : Sem) : SemS := fun ρ => M.bind (dV i ρ) fun x => M.bind (f ρ) fun y => M.bind (M.lift (g x y)) fun z => M.pure (.nx (ρ.set i (.val z)))
theorem iop_mulX : OpR X (inplaceOp .Mult) (rI IntMulOk fun i j => .int (i * j)) := opI fun _ _ _ _ _ _ _ hc q => imul_int q hc
theorem ds_aug {op : Operator} {i : Nat} {x : Str} {e : Expr} {f : Sem} {r : R2} {g : D → D → Option D} (hN : X.N.Nodup) (hi : X.N[i]? = some x) (hx : Loc X.env.scope x) (hf : X.fn x = true ∨ X.env.scope.names.lookup x = some .local) (he : DE G X e f) (ho : OpR X (inplaceOp op) r) (hr : RD2 G r g) :
    DS G X (.AugAssign (.Name x pos') op e pos) (sAug i g f) := PS.mono (ps_aug hN hi hx he ho hf) fun D σ H hq => by
  obtain ⟨I0, H0, I, k, ρ, o, k', F, e, q⟩ := hq
  obtain ⟨d, k1, e1, e⟩ := M.bind_some e
  obtain ⟨d2, k2, e2, e⟩ := M.bind_some e
  obtain ⟨d3, k3, e3, e⟩ := M.bind_some e
  obtain ⟨rfl, rfl⟩ := M.pure_some e
  obtain ⟨e4, rfl⟩ := M.lift_some e3
  unfold dV at e1
  split at e1
  · rename_i d' hd
    cases e1
    obtain ⟨v, h1, h2⟩ := F.val i _ hd
    refine ⟨v, h1, I0, H0, I, _, ρ, d2, _, F, e2, fun I1 H1 u s1 r1 => ?_⟩
    exact hr I1 H1 _ v u d d2 d3 _ s1.w (.inl (h2.sub s1.sub)) (.inl r1) e4 fun I2 H2 w s2 r2 => q I2 H2 _ (((F.step s1).step s2).set i r2) fun a o e => s2.sub a o (s1.sub a o e)
  · cases e1

-- ### two clauses 
def lc2Loop (t : Tg) (c : SemB) (it : SemL) (vs : List Nat) (t1 : Tg) (c1 : SemB) (f : Sem) (ρ : Env) : List D → M (List D)
  | [] => M.pure []
  | d :: ds => match t.put d ρ with
    | none => M.fail
    | some ρ' => M.bind (c ρ') fun b => match b with
      | true => M.bind (it ρ') fun es => M.bind (lcLoop t1 c1 f (wipeE ρ' vs) es) fun xs => M.bind (lc2Loop t c it vs t1 c1 f ρ ds) fun ys => M.pure (xs ++ ys)
      | false => lc2Loop t c it vs t1 c1 f ρ ds
def dLc2 (us : List Nat) (it0 : SemL) (t : Tg) (c : SemB) (it : SemL) (vs : List Nat) (t1 : Tg) (c1 : SemB) (f : Sem) : Sem := fun ρ => M.bind (it0 ρ) fun ds => M.bind (lc2Loop t c it vs t1 c1 f (wipeE ρ us) ds) fun xs => M.lift (if lim xs.length then some (.lst xs) else none)
theorem lc2Loop_cons {t : Tg} {c : SemB} {it : SemL} {vs : List Nat} {t1 : Tg} {c1 : SemB} {f : Sem} {ρ : Env} {d : D} {ds : List D} {k k' : Nat} {xs : List D} (h : lc2Loop t c it vs t1 c1 f ρ (d :: ds) k = some (xs, k')) :
    ∃ ρ' b k1, t.put d ρ = some ρ' ∧ c ρ' k = some (b, k1) ∧ ((b = false ∧ lc2Loop t c it vs t1 c1 f ρ ds k1 = some (xs, k')) ∨
      (b = true ∧ ∃ es k2 x1 k3 ys, it ρ' k1 = some (es, k2) ∧ lcLoop t1 c1 f (wipeE ρ' vs) es k2 = some (x1, k3) ∧ lc2Loop t c it vs t1 c1 f ρ ds k3 = some (ys, k') ∧ xs = x1 ++ ys)) := by
  simp only [lc2Loop] at h
  cases e : t.put d ρ with
  | none => rw [e] at h; cases h
  | some ρ' =>
    rw [e] at h
    obtain ⟨b, k1, e1, h⟩ := M.bind_some h
    refine ⟨ρ', b, k1, rfl, e1, ?_⟩
    cases b with
    | false => exact .inl ⟨rfl, h⟩
    | true =>
      obtain ⟨es, k2, e2, h⟩ := M.bind_some h
      obtain ⟨x1, k3, e3, h⟩ := M.bind_some h
      obtain ⟨ys, k4, e4, h⟩ := M.bind_some h
      obtain ⟨rfl, rfl⟩ := M.pure_some h
      exact .inr ⟨rfl, es, k2, x1, k3, ys, e2, e3, e4, rfl⟩
theorem keepN {I I' H H' : Hp} {k : Nat} {Dn : Addr} {o : HO} (dne : G.da ≠ some Dn) (s : Step G I H I' H' k) (h1 : I Dn = none) (h2 : H Dn = some o) : I' Dn = none ∧ H' Dn = some o := by
  refine ⟨?_, s.same _ _ h2 dne⟩
  cases z : I' Dn with
  | none => rfl
  | some u =>
    rcases s.new _ _ z with w | w
    · rw [h1] at w; cases w
    · rw [h2] at w; cases w
theorem drop_at {α : Type} {l : List α} {i : Nat} {d : α} (h : l[i]? = some d) : l.drop i = d :: l.drop (i + 1) := by
  obtain ⟨h1, h2⟩ := List.getElem?_eq_some_iff.mp h
  rw [← h2]; exact List.drop_eq_getElem_cons h1
/-- a target stores data alone, at its slots -/
def Tg.Good (t : Tg) : Prop := ∀ d ρ ρ', t.put d ρ = some ρ' → ∀ j e, ρ'[j]? = some (.own e) → ρ[j]? = some (.own e) ∧ j ∉ t.slots
def Tgs.Good (t : Tgs) : Prop := ∀ ds ρ ρ', t.put ds ρ = some ρ' → ∀ j e, ρ'[j]? = some (.own e) → ρ[j]? = some (.own e) ∧ j ∉ t.slots
theorem gd_name {i : Nat} : (tgName i).Good := fun d ρ ρ' h j e hj => by
  cases h
  rcases set_get hj with ⟨_, z⟩ | ⟨ne, hj⟩
  · cases z
  · exact ⟨hj, fun z => ne (List.mem_singleton.mp z)⟩
theorem gd_nil : tgsNil.Good := fun ds ρ ρ' h j e hj => by
  cases ds with
  | nil => cases h; exact ⟨hj, fun z => nomatch z⟩
  | cons _ _ => cases h
theorem gd_cons {t : Tg} {u : Tgs} (h1 : t.Good) (h2 : u.Good) : (tgsCons t u).Good := fun ds ρ ρ' h j e hj => by
  cases ds with
  | nil => cases h
  | cons d ds =>
    simp only [tgsCons] at h
    cases c : t.put d ρ with
    | none => rw [c] at h; cases h
    | some ρ1 =>
      rw [c] at h
      obtain ⟨q1, q2⟩ := h2 ds ρ1 ρ' h j e hj
      obtain ⟨q3, q4⟩ := h1 d ρ ρ1 c j e q1
      exact ⟨q3, fun z => (List.mem_append.mp z).elim q4 q2⟩
theorem gd_tup {n : Nat} {t : Tgs} (h1 : t.Good) : (tgTup n t).Good := fun d ρ ρ' h j e hj => by
  cases d <;> simp only [tgTup] at h <;> try cases h
  rename_i ds
  cases c : Nat.beq ds.length n with
  | false => rw [c] at h; cases h
  | true => rw [c] at h; exact h1 ds ρ ρ' h j e hj
theorem FI.mutD {I0 H0 I H : Hp} {k : Nat} {σ : List (Option V)} {ρ : Env} (F : FI G I0 H0 I H k σ ρ) {Dn : Addr} {acc bcc : List V} (hI : I Dn = none) (h0 : H0 Dn = none) (hd : G.da ≠ some Dn) (hH : H Dn = some (.lst acc))
    (ne : ∀ (j : Nat) (d : D), ρ[j]? = some (.own d) → σ[j]? ≠ some (some (V.ref Dn))) : FI G I0 H0 I (upd H Dn (.lst bcc)) k σ ρ where
  st := F.st.write hI h0 hd (fun u l e => by rw [hH] at e; cases e)
  len := F.len
  val := F.val
  own := fun j e h => by
    obtain ⟨b, g1, g2, g3⟩ := F.own j e h
    exact ⟨b, g1, g2.upd (fun z => ne j e h (by rw [g1, z])), g3⟩
  dis := F.dis
  me := fun j c ds h => by
    obtain ⟨x, dx, C, vs, h1, h2, h3, h4⟩ := F.me j c ds h
    exact ⟨x, dx, C, vs, h1, h2, by rw [upd_ne (fun z => by rw [z, hH] at h3; cases h3)]; exact h3, h4⟩
  one := F.one
theorem td_lc2 {us vs : List Nat} {it0 it : SemL} {t t1 : Tg} {c c1 : SemB} {f : Sem} {σ : List (Option V)} {H : Hp} {Q : VK} (hs : ∀ i ∈ t.slots, i ∈ us) (hs1 : ∀ i ∈ t1.slots, i ∈ vs) (gd : t.Good) (hq : tD G (dLc2 us it0 t c it vs t1 c1 f) σ H Q) :
    tLc2 (tDI G it0) (tDG G t) (tDB G c) (tDI G it) (tDG G t1) (tDB G c1) (tD G f) us vs σ H Q := by
  obtain ⟨I0, H0, I, k, ρ, d, k', F, e, q⟩ := hq
  obtain ⟨ds, k1, e1, e⟩ := M.bind_some e
  obtain ⟨xs, k2, e2, e⟩ := M.bind_some e
  obtain ⟨e3, rfl⟩ := M.lift_some e
  have hlim : lim xs.length = true := by
    by_cases z : lim xs.length = true
    · exact z
    · rw [if_neg z] at e3; cases e3
  rw [if_pos hlim] at e3
  cases e3
  refine ⟨I0, H0, I, k, ρ, ds, k1, F, e1, fun I1 H1 J s1 y Dn hD => ?_⟩
  have hwk := s1.w
  have dne : G.da ≠ some Dn := hwk.ne hD
  have hlt := lim_lt hlim
  refine ⟨fun i m H' => m = ds.length - i ∧ i ≤ ds.length ∧ ∃ I2 k2 acc as rest, Step G I1 H1 I2 H' k2 ∧ I2 Dn = none ∧ H' Dn = some (.lst acc) ∧ RepL G I2 acc as ∧ lc2Loop t c it vs t1 c1 f (wipeE ρ us) (ds.drop i) k2 = some (rest, k') ∧ as ++ rest = xs, ⟨ds.length, by simp, Nat.zero_le _, ?_⟩, ?_⟩
  · refine ⟨I1, k1, [], [], xs, Step.mut hwk (Step.refl hwk) hD ?_, ?_, upd_same, .nil, e2, rfl⟩
    all_goals
      cases z : I1 Dn with
      | none => rfl
      | some u => have := hwk.inH _ _ z; rw [hD] at this; cases this
  rintro i m H2 ⟨rfl, hi, I2, k2, acc, as, rest, s2, hID, hHD, ra, hl, hx⟩
  by_cases hil : i < ds.length
  · refine .inr ⟨y.goes i H2 hil ⟨I2, k2, s2.sub, s2.w⟩, fun H' => i + 1 ≤ ds.length ∧ ∃ I2 k2 acc as rest, Step G I1 H1 I2 H' k2 ∧ I2 Dn = none ∧ H' Dn = some (.lst acc) ∧ RepL G I2 acc as ∧ lc2Loop t c it vs t1 c1 f (wipeE ρ us) (ds.drop (i + 1)) k2 = some (rest, k') ∧ as ++ rest = xs,
      fun H' h => ⟨ds.length - (i + 1), by omega, rfl, h⟩, fun x H' hy => ?_⟩
    obtain ⟨I3, d, s3, hd, rd⟩ := y.yields i H2 x H' hil ⟨I2, k2, s2.sub, s2.w⟩ hy I2 k2 s2.sub s2.w
    rw [drop_at hd] at hl
    obtain ⟨ρ', b, k3, p1, p2, p3⟩ := lc2Loop_cons hl
    obtain ⟨hID3, hHD3⟩ := keepN dne s3 hID hHD
    refine ⟨I0, H0, I3, k2, wipeE ρ us, d, ρ', (((F.step s1).step (s2.trans s3)).wipe us), rd, p1, fun σ2 F2 o2 => ⟨off_wipe hs o2, ?_⟩⟩
    refine ⟨I0, H0, I3, k2, ρ', b, k3, F2, p2, fun I4 H4 s4 => ?_⟩
    obtain ⟨hID4, hHD4⟩ := keepN dne s4 hID3 hHD3
    rcases p3 with ⟨rfl, p3⟩ | ⟨rfl, es, k5, x1, k6, ys, p4, p5, p6, p7⟩
    · exact iteF ⟨hil, I4, k3, acc, as, rest, (s2.trans s3).trans s4, hID4, hHD4, (ra.sub s3.sub).sub s4.sub, p3, hx⟩
    · refine iteT ⟨I0, H0, I4, k3, ρ', es, k5, F2.step s4, p4, fun I5 H5 J1 s5 y1 => ?_⟩
      obtain ⟨hID5, hHD5⟩ := keepN dne s5 hID4 hHD4
      have h0D : H0 Dn = none := by
        cases z : H0 Dn with
        | none => rfl
        | some o => have := (F.st.trans s1).same _ _ z dne; rw [hD] at this; cases this
      have hne : ∀ (j : Nat) (d : D), ρ'[j]? = some (.own d) → σ2[j]? ≠ some (some (V.ref Dn)) := fun j d' hj z => by
        obtain ⟨g1, g2⟩ := gd _ _ _ p1 j d' hj
        rw [o2.2 j g2] at z
        obtain ⟨a, g3, g4, _⟩ := ((F.step s1).wipe us).own j d' g1
        rw [z] at g3; cases g3
        obtain ⟨o, ho⟩ := g4.there
        rw [hD] at ho; cases ho
      refine ⟨fun j m H' => m = es.length - j ∧ j ≤ es.length ∧ ∃ I6 kk acc as rest, Sub I5 I6 ∧ Step G I1 H1 I6 H' kk ∧ FI G I0 H0 I6 H' kk σ2 ρ' ∧ I6 Dn = none ∧ H' Dn = some (.lst acc) ∧ RepL G I6 acc as ∧ lcLoop t1 c1 f (wipeE ρ' vs) (es.drop j) kk = some (rest, k6) ∧ as ++ rest ++ ys = xs,
        ⟨es.length, by simp, Nat.zero_le _, ?_⟩, ?_⟩
      · exact ⟨I5, k5, acc, as, x1, fun _ _ e => e, (s2.trans s3).trans (s4.trans s5), (F2.step s4).step s5, hID5, hHD5, ((ra.sub s3.sub).sub s4.sub).sub s5.sub, p5, by rw [List.append_assoc, ← p7]; exact hx⟩
      rintro j m H6 ⟨rfl, hj, I6, kk, acc, as, rest, s6, t6, F6, hID6, hHD6, ra6, hl6, hx6⟩
      by_cases hjl : j < es.length
      · refine .inr ⟨y1.goes j H6 hjl ⟨I6, kk, s6, t6.w⟩, fun H' => j + 1 ≤ es.length ∧ ∃ I6 kk acc as rest, Sub I5 I6 ∧ Step G I1 H1 I6 H' kk ∧ FI G I0 H0 I6 H' kk σ2 ρ' ∧ I6 Dn = none ∧ H' Dn = some (.lst acc) ∧ RepL G I6 acc as ∧ lcLoop t1 c1 f (wipeE ρ' vs) (es.drop (j + 1)) kk = some (rest, k6) ∧ as ++ rest ++ ys = xs,
          fun H' h => ⟨es.length - (j + 1), by omega, rfl, h⟩, fun x2 H' hy2 => ?_⟩
        obtain ⟨I7, d2, s7, hd2, rd2⟩ := y1.yields j H6 x2 H' hjl ⟨I6, kk, s6, t6.w⟩ hy2 I6 kk s6 t6.w
        rw [drop_at hd2] at hl6
        obtain ⟨ρ2, b2, k8, q1, q2, q3⟩ := lcLoop_cons hl6
        obtain ⟨hID7, hHD7⟩ := keepN dne s7 hID6 hHD6
        refine ⟨I0, H0, I7, kk, wipeE ρ' vs, d2, ρ2, (F6.step s7).wipe vs, rd2, q1, fun σ3 F3 o3 => ⟨off_wipe hs1 o3, ?_⟩⟩
        refine ⟨I0, H0, I7, kk, ρ2, b2, k8, F3, q2, fun I8 H8 s8 => ?_⟩
        obtain ⟨hID8, hHD8⟩ := keepN dne s8 hID7 hHD7
        rcases q3 with ⟨rfl, q3⟩ | ⟨rfl, z, k9, zs, q4, q5, q6⟩
        · exact iteF ⟨hjl, I8, k8, acc, as, rest, fun a o e => s8.sub a o (s7.sub a o (s6 a o e)), (t6.trans s7).trans s8, (F6.step s7).step s8, hID8, hHD8, (ra6.sub s7.sub).sub s8.sub, q3, hx6⟩
        · refine iteT ⟨I0, H0, I8, k8, ρ2, z, k9, F3.step s8, q4, fun I9 H9 u s9 ru => ?_⟩
          obtain ⟨hID9, hHD9⟩ := keepN dne s9 hID8 hHD8
          have sAll := (t6.trans s7).trans (s8.trans s9)
          refine ⟨acc, hHD9, ?_, hjl, I9, k9, acc ++ [u], as ++ [z], zs, ?_, ?_, ?_, hID9, upd_same, (((ra6.sub s7.sub).sub s8.sub).sub s9.sub).append (.cons ru .nil), q5, by rw [← hx6, q6]; simp⟩
          · have h2 := ra6.length
            have h3 : as.length ≤ xs.length := by rw [← hx6, List.length_append, List.length_append]; omega
            have h4 : as.length < xs.length := by rw [← hx6, q6]; simp only [List.length_append, List.length_cons]; omega
            omega
          · exact fun a o e => s9.sub a o (s8.sub a o (s7.sub a o (s6 a o e)))
          · exact Step.mut hwk sAll hD hID9
          · exact ((F6.step s7).step (s8.trans s9)).mutD hID9 h0D dne hHD9 hne
      · have e : j = es.length := by omega
        subst e
        rw [List.drop_length] at hl6
        obtain ⟨rfl, rfl⟩ := M.pure_some hl6
        rw [List.append_nil] at hx6
        exact .inl ⟨y1.stops H6 ⟨I6, _, s6, t6.w⟩, hil, I6, _, acc, as, ys, t6, hID6, hHD6, ra6, p6, hx6⟩
  · have e : i = ds.length := by omega
    subst e
    rw [List.drop_length] at hl
    obtain ⟨rfl, rfl⟩ := M.pure_some hl
    rw [List.append_nil] at hx
    subst hx
    have s3 := Step.keep (o := .lst acc) s2 hD hID hHD (hwk.ne hD)
    exact .inl ⟨y.stops H2 ⟨I2, _, s2.sub, s2.w⟩, q _ _ _ (s1.trans s3) (.lst upd_same (ra.sub fun a u e => by rw [upd_ne (fun z => by rw [z, hID] at e; cases e)]; exact e))⟩
theorem de_lc2 {elt tg iter tg1 iter1 : Expr} {ifs ifs1 : List Expr} {scope : Scope} {own : List (Str × Nat)} {us vs : List Nat} {it0 it : SemL} {t t1 : Tg} {c c1 : SemB} {f : Sem} (hc : X.calm = true) (hN : X.N.Nodup) (hi : DI G X tg iter it0) (ok : BlkOk X.N X.env.scope scope own) (hv : ∀ i ∈ vs, i ∈ own.map (·.2))
    (hg : ∀ (s : Shared) (H : Hp) (C : Addr) (cl : List (Str × Addr)) (fp : List Addr), DG G (X.blk s H scope (compEnvC scope cl C X.env) fp) tg t) (ht : ∀ (s : Shared) (H : Hp) (C : Addr) (cl : List (Str × Addr)) (fp : List Addr), PTs (X.blk s H scope (compEnvC scope cl C X.env) fp) ifs (tDB G c))
    (hi1 : ∀ (s : Shared) (H : Hp) (C : Addr) (cl : List (Str × Addr)) (fp : List Addr), DI G (X.blk s H scope (compEnvC scope cl C X.env) fp) tg1 iter1 it)
    (hg1 : ∀ (s : Shared) (H : Hp) (C : Addr) (cl : List (Str × Addr)) (fp : List Addr), DG G (X.blk s H scope (compEnvC scope cl C X.env) fp) tg1 t1) (ht1 : ∀ (s : Shared) (H : Hp) (C : Addr) (cl : List (Str × Addr)) (fp : List Addr), PTs (X.blk s H scope (compEnvC scope cl C X.env) fp) ifs1 (tDB G c1))
    (he : ∀ (s : Shared) (H : Hp) (C : Addr) (cl : List (Str × Addr)) (fp : List Addr), DE G (X.blk s H scope (compEnvC scope cl C X.env) fp) elt f) (hs : ∀ i ∈ t.slots, i ∈ own.map (·.2)) (hs1 : ∀ i ∈ t1.slots, i ∈ vs) (gd : t.Good) (hf : ∀ x, foldedSetIterable iter X.env x = pure x) (hf1 : ∀ env x, foldedSetIterable iter1 env x = pure x) (hvs : own.map (·.2) = us) :
    DE G X (.ListComp elt [⟨tg, iter, ifs, 0⟩, ⟨tg1, iter1, ifs1, 0⟩] scope pos) (dLc2 us it0 t c it vs t1 c1 f) := by
  subst hvs
  exact PE.mono (pe_lc2 hc hN hi ok hv hg ht hi1 hg1 ht1 he hf hf1) fun _ _ _ h => td_lc2 hs hs1 gd h
theorem ds_setLc2 {i : Nat} {y : Str} {py spos : Pos} {elt tg iter tg1 iter1 : Expr} {ifs ifs1 : List Expr} {scope : Scope} {own : List (Str × Nat)} {us vs : List Nat} {it0 it : SemL} {t t1 : Tg} {c c1 : SemB} {f : Sem} (hc : X.calm = true) (hN : X.N.Nodup) (hy : X.N[i]? = some y) (hyl : X.env.scope.names.lookup y = some .local)
    (hsw : swapsWith (.ListComp elt [⟨tg, iter, ifs, 0⟩, ⟨tg1, iter1, ifs1, 0⟩] scope pos) (some (.Name y py)) spos.line X.env = pure true) (hi : DI G X tg iter it0) (ok : BlkOk X.N X.env.scope scope own) (hv : ∀ i ∈ vs, i ∈ own.map (·.2))
    (hg : ∀ (s : Shared) (H : Hp) (C : Addr) (cl : List (Str × Addr)) (fp : List Addr), DG G (X.blk s H scope (compEnvC scope cl C X.env) fp) tg t) (ht : ∀ (s : Shared) (H : Hp) (C : Addr) (cl : List (Str × Addr)) (fp : List Addr), PTs (X.blk s H scope (compEnvC scope cl C X.env) fp) ifs (tDB G c))
    (hi1 : ∀ (s : Shared) (H : Hp) (C : Addr) (cl : List (Str × Addr)) (fp : List Addr), DI G (X.blk s H scope (compEnvC scope cl C X.env) fp) tg1 iter1 it)
    (hg1 : ∀ (s : Shared) (H : Hp) (C : Addr) (cl : List (Str × Addr)) (fp : List Addr), DG G (X.blk s H scope (compEnvC scope cl C X.env) fp) tg1 t1) (ht1 : ∀ (s : Shared) (H : Hp) (C : Addr) (cl : List (Str × Addr)) (fp : List Addr), PTs (X.blk s H scope (compEnvC scope cl C X.env) fp) ifs1 (tDB G c1))
    (he : ∀ (s : Shared) (H : Hp) (C : Addr) (cl : List (Str × Addr)) (fp : List Addr), DE G (X.blk s H scope (compEnvC scope cl C X.env) fp) elt f) (hs : ∀ i ∈ t.slots, i ∈ own.map (·.2)) (hs1 : ∀ i ∈ t1.slots, i ∈ vs) (gd : t.Good) (hf : ∀ x, foldedSetIterable iter X.env x = pure x) (hf1 : ∀ env x, foldedSetIterable iter1 env x = pure x) (hvs : own.map (·.2) = us) :
    DS G X (.Assign [.Name y py] (.ListComp elt [⟨tg, iter, ifs, 0⟩, ⟨tg1, iter1, ifs1, 0⟩] scope pos) spos) (sAsg (dLc2 us it0 t c it vs t1 c1 f) (tgName i)) := by
  subst hvs
  exact ds_asgL (ps_setLc2 hc hN hy hyl hsw hi ok hv hg ht hi1 hg1 ht1 he hf hf1) fun _ _ _ h => td_lc2 hs hs1 gd h
end
end Sky

end
section
-- SkyS: lists and tuples whose items have an own equality: == and !=, in and not in. 
namespace SkyQ
open PySem PySem.SeqAt
open AutoSeq1 (wpAny_loadPart')
open MeetsSeq MeetsSeq2 MeetsSeq3 SeqRoads2
section
variable {prog : Program} {w : World} {A : Around} {R : Result → Shared → Prop}
abbrev Fi (prog : Program) (w : World) (A : Around) (R : Result → Shared → Prop) : Fin → Shared → Prop := fun z t => match z with
  | .done f => R (.ok f) t
  | .again c => c.quiet = true ∧ codeAny (model prog w) A c R t
def Stand (l b : Addr) (N : Nat) (t : Shared) : Prop := ∃ (xs ys : Array Value) (n m : Nat), t.heap.get? l = some { cls := .type "list", data := .seq xs n } ∧ t.heap.get? b = some { cls := .type "list", data := .seq ys m } ∧ xs.size = N ∧ ys.size = N
/-- the two lists stand, with n items each; the i-th two are asked: told equal the next turn, told unlike the end -/
def Two (prog : Program) (w : World) (A : Around) (E : Value → Shared → Prop) (l b : Addr) (N : Nat) (I : Nat → Shared → Prop) (J : Shared → Prop) : Prop :=
  ∀ i t, I i t → ∃ (xs ys : Array Value) (n m : Nat), t.heap.get? l = some { cls := .type "list", data := .seq xs n } ∧ t.heap.get? b = some { cls := .type "list", data := .seq ys m } ∧ xs.size = N ∧ ys.size = N ∧
    ∀ (h1 : i < xs.size) (h2 : i < ys.size), wpAny (model prog w) A.in1 (eqBool xs[i] ys[i]) (fun r t' => (r = true ∧ I (i + 1) t') ∨ (r = false ∧ Stand l b N t' ∧ J t')) E t
theorem eqLoop (l b : Addr) (N : Nat) (I : Nat → Shared → Prop) (J : Shared → Prop) (hl : Two prog w A (fun e t => R (.error e) t) l b N I J)
    (yes : ∀ t, I N t → R (.ok (.ret (.bool true))) t) (no : ∀ t, J t → R (.ok (.ret (.bool false))) t) (k : Nat) :
    ∀ i : Nat, N - i = k → i ≤ N → ∀ t, I i t → wpAny (model prog w) A.in1 (Builtin.«list.__eq__.loop» ⟨[.ref l, .ref b, rawInt i, rawInt 2], []⟩) (Fi prog w A R) (fun e t => R (.error e) t) t := by
  induction k with
  | zero =>
    intro i hk hi t h
    obtain ⟨xs, ys, n, m, gl, gb, z1, z2, _⟩ := hl _ _ h
    have ei : i = N := by omega
    have done : R (.ok (.ret (.bool true))) t := yes t (ei ▸ h)
    obtain ⟨hp, g, d, tk, os⟩ := t
    wp_walk using wpAny_loadPart' gl, wpAny_loadPart' gb
    have n1 : xs[((i : Nat) : Int).toNat]? = none := by simp; omega
    have n2 : ys[((i : Nat) : Int).toNat]? = none := by simp; omega
    rw [n1, n2]
    wp_walk using wpAny_loadPart' gl, wpAny_loadPart' gb
    show R (.ok (.ret (.bool (xs.size == ys.size)))) _
    rw [z1, z2]
    simpa using done
  | succ k ih =>
    intro i hk hi t h
    obtain ⟨xs, ys, n, m, gl, gb, z1, z2, turn⟩ := hl _ _ h
    have l1 : i < xs.size := by omega
    have l2 : i < ys.size := by omega
    have ask := turn l1 l2
    obtain ⟨hp, g, d, tk, os⟩ := t
    wp_walk using wpAny_loadPart' gl, wpAny_loadPart' gb
    have n1 : xs[((i : Nat) : Int).toNat]? = some xs[i] := by simp [l1]
    have n2 : ys[((i : Nat) : Int).toNat]? = some ys[i] := by simp [l2]
    have nc : ((i : Int) + 1) = ((i + 1 : Nat) : Int) := by omega
    rw [n1, n2]
    refine wpAny_bind (wpAny_mono ask (fun r t2 q => ?_) fun _ _ x => x)
    rcases q with ⟨rfl, q⟩ | ⟨rfl, q, j⟩
    · have more := ih (i + 1) (by omega) (by omega) t2 q
      obtain ⟨hp2, g2, d2, tk2, os2⟩ := t2
      wp_walk
      rw [nc]
      exact ⟨plainId_quiet plain_eq_loop _, codeAny_builtin entry_eq_loop (by
        rw [Around.under_plainId plain_eq_loop _]
        exact more)⟩
    · have fin := no t2 j
      obtain ⟨us, vs, n', m', gl2, gb2, y1, y2⟩ := q
      have m1 : us[((i : Nat) : Int).toNat]? = some (us[i]'(by omega)) := by simp
      have m2 : vs[((i : Nat) : Int).toNat]? = some (vs[i]'(by omega)) := by simp
      obtain ⟨hp2, g2, d2, tk2, os2⟩ := t2
      wp_walk using wpAny_loadPart' gl2, wpAny_loadPart' gb2
      rw [m1, m2]
      wp_walk
      exact fin
theorem eqList (l b : Addr) (N : Nat) (I : Nat → Shared → Prop) (J : Shared → Prop) (hl : Two prog w A (fun e t => R (.error e) t) l b N I J)
    (yes : ∀ t, I N t → R (.ok (.ret (.bool true))) t) (no : ∀ t, J t → R (.ok (.ret (.bool false))) t) {t : Shared} (h : I 0 t) :
    wpAny (model prog w) A.in1 (Builtin.«list.__eq__» ⟨[.ref l, .ref b], []⟩) (Fi prog w A R) (fun e t => R (.error e) t) t := by
  obtain ⟨xs, ys, n, m, gl, gb, z1, z2, _⟩ := hl _ _ h
  have more := eqLoop (A := A) (R := R) l b N I J hl yes no _ 0 rfl (Nat.zero_le _) t h
  obtain ⟨hp, g, d, tk, os⟩ := t
  have kind := AutoSeq1.sub_list_list
  have same : ¬ (xs.size != ys.size) = true := by simp [z1, z2]
  wp_walk using wpAny_loadPart' gl, wpAny_loadPart' gb
  exact ⟨plainId_quiet plain_eq_loop _, codeAny_builtin entry_eq_loop (by
    rw [Around.under_plainId plain_eq_loop _]
    exact more)⟩
theorem neLoop (l b : Addr) (N : Nat) (I : Nat → Shared → Prop) (J : Shared → Prop) (hl : Two prog w A (fun e t => R (.error e) t) l b N I J)
    (yes : ∀ t, I N t → R (.ok (.ret (.bool false))) t) (no : ∀ t, J t → R (.ok (.ret (.bool true))) t) (k : Nat) :
    ∀ i : Nat, N - i = k → i ≤ N → ∀ t, I i t → wpAny (model prog w) A.in1 (Builtin.«list.__eq__.loop» ⟨[.ref l, .ref b, rawInt i, rawInt 3], []⟩) (Fi prog w A R) (fun e t => R (.error e) t) t := by
  induction k with
  | zero =>
    intro i hk hi t h
    obtain ⟨xs, ys, n, m, gl, gb, z1, z2, _⟩ := hl _ _ h
    have ei : i = N := by omega
    have done : R (.ok (.ret (.bool false))) t := yes t (ei ▸ h)
    obtain ⟨hp, g, d, tk, os⟩ := t
    wp_walk using wpAny_loadPart' gl, wpAny_loadPart' gb
    have n1 : xs[((i : Nat) : Int).toNat]? = none := by simp; omega
    have n2 : ys[((i : Nat) : Int).toNat]? = none := by simp; omega
    rw [n1, n2]
    wp_walk using wpAny_loadPart' gl, wpAny_loadPart' gb
    show R (.ok (.ret (.bool (xs.size != ys.size)))) _
    rw [z1, z2]
    simpa using done
  | succ k ih =>
    intro i hk hi t h
    obtain ⟨xs, ys, n, m, gl, gb, z1, z2, turn⟩ := hl _ _ h
    have l1 : i < xs.size := by omega
    have l2 : i < ys.size := by omega
    have ask := turn l1 l2
    obtain ⟨hp, g, d, tk, os⟩ := t
    wp_walk using wpAny_loadPart' gl, wpAny_loadPart' gb
    have n1 : xs[((i : Nat) : Int).toNat]? = some xs[i] := by simp [l1]
    have n2 : ys[((i : Nat) : Int).toNat]? = some ys[i] := by simp [l2]
    have nc : ((i : Int) + 1) = ((i + 1 : Nat) : Int) := by omega
    rw [n1, n2]
    refine wpAny_bind (wpAny_mono ask (fun r t2 q => ?_) fun _ _ x => x)
    rcases q with ⟨rfl, q⟩ | ⟨rfl, q, j⟩
    · have more := ih (i + 1) (by omega) (by omega) t2 q
      obtain ⟨hp2, g2, d2, tk2, os2⟩ := t2
      wp_walk
      rw [nc]
      exact ⟨plainId_quiet plain_eq_loop _, codeAny_builtin entry_eq_loop (by
        rw [Around.under_plainId plain_eq_loop _]
        exact more)⟩
    · have fin := no t2 j
      obtain ⟨us, vs, n', m', gl2, gb2, y1, y2⟩ := q
      have m1 : us[((i : Nat) : Int).toNat]? = some (us[i]'(by omega)) := by simp
      have m2 : vs[((i : Nat) : Int).toNat]? = some (vs[i]'(by omega)) := by simp
      obtain ⟨hp2, g2, d2, tk2, os2⟩ := t2
      wp_walk using wpAny_loadPart' gl2, wpAny_loadPart' gb2
      rw [m1, m2]
      wp_walk
      exact fin
theorem neList (l b : Addr) (N : Nat) (I : Nat → Shared → Prop) (J : Shared → Prop) (hl : Two prog w A (fun e t => R (.error e) t) l b N I J)
    (yes : ∀ t, I N t → R (.ok (.ret (.bool false))) t) (no : ∀ t, J t → R (.ok (.ret (.bool true))) t) {t : Shared} (h : I 0 t) :
    wpAny (model prog w) A.in1 (Builtin.«list.__ne__» ⟨[.ref l, .ref b], []⟩) (Fi prog w A R) (fun e t => R (.error e) t) t := by
  obtain ⟨xs, ys, n, m, gl, gb, z1, z2, _⟩ := hl _ _ h
  have more := neLoop (A := A) (R := R) l b N I J hl yes no _ 0 rfl (Nat.zero_le _) t h
  obtain ⟨hp, g, d, tk, os⟩ := t
  have kind := AutoSeq1.sub_list_list
  have same : ¬ (xs.size != ys.size) = true := by simp [z1, z2]
  wp_walk using wpAny_loadPart' gl, wpAny_loadPart' gb
  exact ⟨plainId_quiet plain_eq_loop _, codeAny_builtin entry_eq_loop (by
    rw [Around.under_plainId plain_eq_loop _]
    exact more)⟩
theorem inLoop (l : Addr) (x : Value) (N : Nat) (I : Nat → Shared → Prop) (J : Shared → Prop)
    (hl : ∀ i t, I i t → ∃ (xs : Array Value) (n : Nat), t.heap.get? l = some { cls := .type "list", data := .seq xs n } ∧ xs.size = N ∧ ∀ h : i < xs.size, wpAny (model prog w) A.in1 (eqBool xs[i] x) (fun r t' => (r = false ∧ I (i + 1) t') ∨ (r = true ∧ J t')) (fun e t => R (.error e) t) t)
    (no : ∀ t, I N t → R (.ok (.ret (.bool false))) t) (yes : ∀ t, J t → R (.ok (.ret (.bool true))) t) (k : Nat) :
    ∀ i : Nat, N - i = k → i ≤ N → ∀ t, I i t → wpAny (model prog w) A.in1 (Builtin.«list.__contains__.loop» ⟨[.ref l, x, rawInt i], []⟩) (Fi prog w A R) (fun e t => R (.error e) t) t := by
  induction k with
  | zero =>
    intro i hk hi t h
    obtain ⟨xs, n, gl, z1, _⟩ := hl _ _ h
    have ei : i = N := by omega
    have done : R (.ok (.ret (.bool false))) t := no t (ei ▸ h)
    obtain ⟨hp, g, d, tk, os⟩ := t
    wp_walk using wpAny_loadPart' gl
    have n1 : xs[((i : Nat) : Int).toNat]? = none := by simp; omega
    rw [n1]
    wp_walk
    exact done
  | succ k ih =>
    intro i hk hi t h
    obtain ⟨xs, n, gl, z1, turn⟩ := hl _ _ h
    have l1 : i < xs.size := by omega
    have ask := turn l1
    obtain ⟨hp, g, d, tk, os⟩ := t
    wp_walk using wpAny_loadPart' gl
    have n1 : xs[((i : Nat) : Int).toNat]? = some xs[i] := by simp [l1]
    have nc : ((i : Int) + 1) = ((i + 1 : Nat) : Int) := by omega
    rw [n1]
    refine wpAny_bind (wpAny_mono ask (fun r t2 q => ?_) fun _ _ x => x)
    rcases q with ⟨rfl, q⟩ | ⟨rfl, j⟩
    · have more := ih (i + 1) (by omega) (by omega) t2 q
      obtain ⟨hp2, g2, d2, tk2, os2⟩ := t2
      wp_walk
      rw [nc]
      exact ⟨plainId_quiet plain_contains_loop _, codeAny_builtin entry_contains_loop (by
        rw [Around.under_plainId plain_contains_loop _]
        exact more)⟩
    · have fin := yes t2 j
      obtain ⟨hp2, g2, d2, tk2, os2⟩ := t2
      wp_walk
      exact fin
theorem inList (l : Addr) (x : Value) (N : Nat) (I : Nat → Shared → Prop) (J : Shared → Prop)
    (hl : ∀ i t, I i t → ∃ (xs : Array Value) (n : Nat), t.heap.get? l = some { cls := .type "list", data := .seq xs n } ∧ xs.size = N ∧ ∀ h : i < xs.size, wpAny (model prog w) A.in1 (eqBool xs[i] x) (fun r t' => (r = false ∧ I (i + 1) t') ∨ (r = true ∧ J t')) (fun e t => R (.error e) t) t)
    (no : ∀ t, I N t → R (.ok (.ret (.bool false))) t) (yes : ∀ t, J t → R (.ok (.ret (.bool true))) t) {t : Shared} (h : I 0 t) :
    wpAny (model prog w) A.in1 (Builtin.«list.__contains__» ⟨[.ref l, x], []⟩) (Fi prog w A R) (fun e t => R (.error e) t) t := by
  obtain ⟨xs, n, gl, z1, _⟩ := hl _ _ h
  have more := inLoop (A := A) (R := R) l x N I J hl no yes _ 0 rfl (Nat.zero_le _) t h
  obtain ⟨hp, g, d, tk, os⟩ := t
  wp_walk using wpAny_loadPart' gl
  exact ⟨plainId_quiet plain_contains_loop _, codeAny_builtin entry_contains_loop (by
    rw [Around.under_plainId plain_contains_loop _]
    exact more)⟩
end
section
variable {prog : Program} {w : World} {A : Around} {E : Value → Shared → Prop} {t : Shared}
theorem eqRc {l b : Addr} {N : Nat} {Q : Value → Shared → Prop} (hu : A.units < cLine) (I : Nat → Shared → Prop) (J : Shared → Prop) (hl : Two prog w A E l b N I J)
    (yes : ∀ t, I N t → Q (.bool true) t) (no : ∀ t, J t → Q (.bool false) t) (h : I 0 t) : wpAny (model prog w) A (richCompare .Eq (.ref l) (.ref b)) Q E t := by
  obtain ⟨xs, ys, n, m, gl, gb, _, _, _⟩ := hl _ _ h
  refine wpAny_richCompare_same_room (op := .Eq) ⟨_, gl, rfl⟩ ⟨_, gb, rfl⟩ F.slot_list_eq (GQ.call_here F.slot_list_eq ⟨_, gl, rfl⟩ F.entry_list_eq (F.args_list_eq_2 _ _) ?_) hu
  exact eqList (R := wants (fun v t => v ≠ .notImplemented ∧ Q v t) E) l b N I J hl (fun t q => ⟨(fun x => nomatch x), yes t q⟩) (fun t q => ⟨(fun x => nomatch x), no t q⟩) h
theorem neRc {l b : Addr} {N : Nat} {Q : Value → Shared → Prop} (hu : A.units < cLine) (I : Nat → Shared → Prop) (J : Shared → Prop) (hl : Two prog w A E l b N I J)
    (yes : ∀ t, I N t → Q (.bool false) t) (no : ∀ t, J t → Q (.bool true) t) (h : I 0 t) : wpAny (model prog w) A (richCompare .NotEq (.ref l) (.ref b)) Q E t := by
  obtain ⟨xs, ys, n, m, gl, gb, _, _, _⟩ := hl _ _ h
  refine wpAny_richCompare_same_room (op := .NotEq) ⟨_, gl, rfl⟩ ⟨_, gb, rfl⟩ F.slot_list_ne (GQ.call_here F.slot_list_ne ⟨_, gl, rfl⟩ F.entry_list_ne (F.args_list_ne_2 _ _) ?_) hu
  exact neList (R := wants (fun v t => v ≠ .notImplemented ∧ Q v t) E) l b N I J hl (fun t q => ⟨(fun x => nomatch x), yes t q⟩) (fun t q => ⟨(fun x => nomatch x), no t q⟩) h
theorem inCall {l : Addr} {x : Value} {N : Nat} {Q : Bool → Shared → Prop} (I : Nat → Shared → Prop) (J : Shared → Prop)
    (hl : ∀ i t, I i t → ∃ (xs : Array Value) (n : Nat), t.heap.get? l = some { cls := .type "list", data := .seq xs n } ∧ xs.size = N ∧ ∀ h : i < xs.size, wpAny (model prog w) A.in1 (eqBool xs[i] x) (fun r t' => (r = false ∧ I (i + 1) t') ∨ (r = true ∧ J t')) E t)
    (no : ∀ t, I N t → Q false t) (yes : ∀ t, J t → Q true t) (h : I 0 t) : wpAny (model prog w) A (contains (.ref l) x) Q E t := by
  obtain ⟨xs, n, gl, _, _⟩ := hl _ _ h
  refine wpAny_contains_slot ⟨_, gl, rfl⟩ F.slot_list_contains (GQ.call_here F.slot_list_contains ⟨_, gl, rfl⟩ F.entry_list_contains (F.args_list_contains_2 _ _) ?_)
  exact inList (R := wants (fun v t => wpAny (model prog w) A (truthy v) Q E t) E) l x N I J hl (fun t q => wpAny_truthy_bool (no t q)) (fun t q => wpAny_truthy_bool (yes t q)) h
theorem inOp {l : Addr} {x : Value} {Q : Value → Shared → Prop} (h : wpAny (model prog w) A (contains (.ref l) x) (fun b t => Q (.bool b) t) E t) : wpAny (model prog w) A (compareOp .In x (.ref l)) Q E t := by
  show wpAny _ A (contains (.ref l) x >>= fun b => pure (.bool b)) Q E t
  exact wpAny_bind (wpAny_mono h (fun b t q => wpAny_pure q) fun _ _ e => e)
theorem notInOp {l : Addr} {x : Value} {Q : Value → Shared → Prop} (h : wpAny (model prog w) A (contains (.ref l) x) (fun b t => Q (.bool (!b)) t) E t) : wpAny (model prog w) A (compareOp .NotIn x (.ref l)) Q E t := by
  show wpAny _ A (contains (.ref l) x >>= fun b => pure (.bool (!b))) Q E t
  exact wpAny_bind (wpAny_mono h (fun b t q => wpAny_pure q) fun _ _ e => e)
end
end SkyQ

end
section
-- SkyT: lists of instances: == and !=, in and not in, by data. 
namespace Sky
open PySem PySem.Spec PyProof.Rows L2
mutual
/-- might one value stand for both -/
def D.same : D → D → Bool
  | .bl a, .bl b => decide (a = b)
  | .int a, .int b => decide (a = b)
  | .str a, .str b => decide (a = b)
  | .ins c fs, .ins e gs => !decide (c = e) || D.sames fs gs
  | .tup xs, .tup ys => D.sames xs ys
  | .lst xs, .lst ys => D.sames xs ys
  | _, _ => true
def D.sames : List D → List D → Bool
  | x :: xs, y :: ys => D.same x y && D.sames xs ys
  | _, _ => true
end
mutual
theorem Rep.one {G : Gh} {I : Hp} (inj : ∀ a vs ws, SqT G.K I a vs → SqT G.K I a ws → vs = ws) : ∀ {v : V} {d e : D}, Rep G I v d → Rep G I v e → d.same e = true
  | _, _, _, .bl b, h => by cases h; simp [D.same]
  | _, _, _, .int b, h => by cases h; simp [D.same]
  | _, _, _, .str b, h => by cases h; simp [D.same]
  | _, _, _, .non, h => by cases h; simp [D.same]
  | _, _, _, .scr, h => by simp [D.same]
  | _, _, _, .drw _, h => by simp [D.same]
  | _, _, _, .dK _ _ _, h => by simp [D.same]
  | _, _, _, .dT _ _ _, h => by simp [D.same]
  | _, _, _, .tup h r, g => by
    cases g <;> simp only [D.same]
    rename_i us es r2 h2
    have := inj _ _ _ h h2
    subst this
    exact r.one inj r2
  | _, _, _, .lst h r, g => by
    cases g <;> simp only [D.same]
    rename_i us es r2 h2
    rw [h] at h2; cases h2
    exact r.one inj r2
  | _, _, _, .ins (c := c) (vs := vs) h hc hl r, g => by
    cases g <;> simp only [D.same]
    rename_i C2 dx2 c2 vs2 es hc2 hl2 r2 h2
    by_cases q : c = c2
    · subst q
      rw [h] at h2
      have e := h2
      simp only [Option.some.injEq, HO.ins.injEq] at e
      obtain ⟨_, _, e⟩ := e
      have : vs = vs2 := by
        have u := congrArg List.unzip e
        rw [List.unzip_zip hl.symm, List.unzip_zip hl2.symm] at u
        exact (Prod.mk.inj u).2
      subst this
      rw [r.one inj r2]; simp
    · simp [q]
theorem RepL.one {G : Gh} {I : Hp} (inj : ∀ a vs ws, SqT G.K I a vs → SqT G.K I a ws → vs = ws) : ∀ {v : List V} {d e : List D}, RepL G I v d → RepL G I v e → D.sames d e = true
  | _, _, _, .nil, h => by simp [D.sames]
  | _, _, _, .cons h t, g => by
    cases g with
    | cons h2 t2 => simp only [D.sames]; rw [h.one inj h2, t.one inj t2]; rfl
end
/-- == within a list -/
def eqItem (eqt : Eqt) (x y : D) : M Bool := fun k => match x, y with
  | .ins c fs, .ins e gs => (match eqt c with
    | some F => (match F [.ins c fs, .ins e gs] k with
      | some (.bl b, k1) => (match Nat.beq k1 k && (b || !D.same (.ins c fs) (.ins e gs)) with
        | true => some (b, k)
        | false => none)
      | _ => none)
    | none => none)
  | x, y => M.lift (cEqP x y) k
def eqItems (eqt : Eqt) : List D → List D → M Bool
  | [], [] => M.pure true
  | x :: xs, y :: ys => M.bind (eqItem eqt x y) fun b => match b with
    | true => eqItems eqt xs ys
    | false => M.pure false
  | _, _ => M.fail
def inItems (eqt : Eqt) (x : D) : List D → M Bool
  | [] => M.pure false
  | y :: ys => M.bind (eqItem eqt y x) fun b => match b with
    | true => M.pure true
    | false => inItems eqt x ys
section
variable {G : Gh} {X : Cx} {pos : Pos} {eqt : Eqt} {pins : List (Addr × Obj)} {σ : L2.St}
theorem eqItem_ins {c e : Cn} {fs gs : List D} {k k' : Nat} {b : Bool} (h : eqItem eqt (.ins c fs) (.ins e gs) k = some (b, k')) : ∃ F, eqt c = some F ∧ k' = k ∧ F [.ins c fs, .ins e gs] k = some (.bl b, k) ∧ (b = false → D.same (.ins c fs) (.ins e gs) = false) := by
  simp only [eqItem] at h
  split at h
  · rename_i F hF
    split at h
    · rename_i b1 k1 hb
      split at h
      · rename_i q
        cases h
        obtain ⟨q1, q2⟩ := Bool.and_eq_true_iff.mp q
        have q3 := Nat.eq_of_beq_eq_true q1
        subst q3
        exact ⟨F, hF, rfl, hb, fun z => by subst z; simpa using q2⟩
      · cases h
    · cases h
  · cases h
theorem item_ins (kit : KitOk G) (hK : X.K = G.K) (hE : EqOk G X eqt) {H I : Hp} {t : Shared} {k k' : Nat} {c e : Cn} {fs gs : List D} {v u : V} {p q : Value} {b : Bool} (J : Inv X pins σ H t) (w : WOk G I H k) (rp : RelV v p) (rq : RelV u q) (hx : Rep G I v (.ins c fs)) (hy : Rep G I u (.ins e gs))
    (he : eqItem eqt (.ins c fs) (.ins e gs) k = some (b, k')) : wpAny (model X.prog X.w) X.A.in1 (eqBool p q) (fun r t' => r = b ∧ ∃ I' H', Inv X pins σ H' t' ∧ Step G I H I' H' k') X.xe t := by
  obtain ⟨F, hF, rfl, hb, hsame⟩ := eqItem_ins he
  have hx' := hx
  have hy' := hy
  cases hx with
  | @ins a C dx _ vs _ h hc hl r =>
  cases hy with
  | @ins a2 C2 dx2 _ vs2 _ h2 hc2 hl2 r2 =>
  cases rp
  cases rq
  by_cases hab : a = a2
  · subst hab
    have inj : ∀ a vs ws, SqT G.K I a vs → SqT G.K I a ws → vs = ws := fun a vs ws h1 h2 => by
      have g1 := sqT_sub w.inH h1
      have g2 := sqT_sub w.inH h2
      rw [← hK] at g1 g2
      exact J.tuple_inj g1 g2
    have sm := hx'.one inj hy'
    cases b with
    | false => rw [hsame rfl] at sm; cases sm
    | true => exact SeqAt.EqAt.same (A := X.A.in1) (s := t) (.ref a) X.prog X.w X.xe _ ⟨rfl, I, H, J, Step.refl w⟩
  · refine GQ.eqBool_refG hab ?_
    obtain ⟨mA, J1, _⟩ := ins_get J.hok (w.inH _ _ h)
    obtain ⟨od, J1, _⟩ := J1.look
    obtain ⟨m, hFr⟩ := J.fr
    obtain ⟨j, f, fd, ps, hM, hok, hr, hbd⟩ := hE c F C hF hc
    obtain ⟨tu, ht, ty⟩ := tyx_of kit w.inH (.inl hy') (t := .own e) rfl
    obtain ⟨P, Z, pz, _⟩ := kit_of J (x := V.ref a2) (u := Value.ref a2) rfl (by rw [hK]; exact ty)
    refine PySem.W.cmp_K (op := .Eq) (tb := tu) hr.in1.units0 hFr J.ok.mod.kin J1 (Z.ty _ _ J.kIn pz) (by rw [hK]; exact kit.nf c C _ tu hc ht) hM.at_ hM.fn ?_
    have hsp : spM G 2 F [.ref a, .ref a2] H (fun v H' => ∃ I', v = .bl b ∧ Step G I H I' H' k') E0 := ⟨rfl, G.da, G.me, I, _, _, .bl b, _, w, .cons hx' (.cons hy' .nil), hb, fun I3 H3 z s3 r3 => by cases r3; exact ⟨I3, rfl, s3⟩⟩
    have hlen := hok.len _ _ _ _ hsp
    have rr : Vals [V.ref a, V.ref a2] [Value.ref a, Value.ref a2] := .cons rfl (.cons rfl .nil)
    have bd := hbd t [.ref a, .ref a2] J.kIn (by rw [List.append_nil, ← rr.length]; exact hlen)
    rw [List.append_nil] at bd
    refine wpAny_call (codeAny_mono (hok.run X.A.in1 X.stack t H ⟨[.ref a, .ref a2], []⟩ [.ref a, .ref a2] [.ref a, .ref a2] _ E0 hr.in1 J.env0.in1 bd rr hsp) fun r s' hq => ?_)
    cases r with
    | error e => exact pass0 pins σ H t e s' J hq
    | ok fl =>
      cases fl with
      | ret z =>
        obtain ⟨y, H1, J2, ry, I1, ey, st⟩ := J.after hq
        subst ey
        cases ry
        exact ⟨b, rfl, rfl, I1, H1, J2, st⟩
      | next => exact False.elim hq
      | brk => exact False.elim hq
      | cont => exact False.elim hq
theorem item_ok (kit : KitOk G) (hK : X.K = G.K) (hE : EqOk G X eqt) (hu : X.A.units + 65 < cLine) {H I : Hp} {t : Shared} {k k' : Nat} {d e : D} {v u : V} {p q : Value} {b : Bool} (J : Inv X pins σ H t) (w : WOk G I H k) (rp : RelV v p) (rq : RelV u q) (hx : Rep G I v d) (hy : Rep G I u e)
    (he : eqItem eqt d e k = some (b, k')) : wpAny (model X.prog X.w) X.A.in1 (eqBool p q) (fun r t' => r = b ∧ ∃ I' H', Inv X pins σ H' t' ∧ Step G I H I' H' k') X.xe t := by
  have plain : M.lift (cEqP d e) k = some (b, k') → wpAny (model X.prog X.w) X.A.in1 (eqBool p q) (fun r t' => r = b ∧ ∃ I' H', Inv X pins σ H' t' ∧ Step G I H I' H' k') X.xe t := fun z0 => by
    obtain ⟨z, rfl⟩ := M.lift_some z0
    obtain ⟨x1, x2, e1, e2, s1, s2, rfl⟩ := cEqP_some z
    obtain ⟨as, ra⟩ := Dp.reads J x1 v p (by rw [hK]; exact py_rep w.inH hx e1) rp
    obtain ⟨bs, rb⟩ := Dp.reads J x2 u q (by rw [hK]; exact py_rep w.inH hy e2) rq
    refine SeqAt.eqAt_reads x1 x2 X.A.in1 t p q as bs ra rb (SeqAt.canLay_of_shaped s1) (SeqAt.canLay_of_shaped s2) (SeqAt.room_of_shaped s1 (by show X.A.units + 1 + 64 < _; omega)) X.prog X.w X.xe _ ⟨rfl, I, H, J, Step.refl w⟩
  cases d <;> first | exact plain he | skip
  cases e <;> first | exact plain he | skip
  exact item_ins kit hK hE J w rp rq hx hy he

-- ### lists 
def leqD (eqt : Eqt) (x y : D) : M Bool := match x, y with
  | .lst xs, .lst ys => if xs.length = ys.length then eqItems eqt xs ys else M.fail
  | _, _ => M.fail
def rLeq (G : Gh) (eqt : Eqt) (neg : Bool) : R2 := fun x y H Q => ∃ I k d e b k', WOk G I H k ∧ RepB G I H x d ∧ RepB G I H y e ∧ leqD eqt d e k = some (b, k') ∧ ∀ I' H', Step G I H I' H' k' → Q (.bl (xor neg b)) H'
theorem stand_of (kit : KitOk G) {I H I1 H1 : Hp} {t : Shared} {k1 : Nat} {a a2 : Addr} {vs us : List V} (J : Inv X pins σ H1 t) (h1 : H1 a = some (.lst vs)) (h2 : H1 a2 = some (.lst us)) : ∃ its its2 n m, t.heap.get? a = some { cls := .type "list", data := .seq its n } ∧ t.heap.get? a2 = some { cls := .type "list", data := .seq its2 m } ∧
    Vals vs its.toList ∧ Vals us its2.toList := by
  obtain ⟨z, l1, n, r1, g1⟩ := J.hok a _ h1
  obtain ⟨z2, l2, m, r2, g2⟩ := J.hok a2 _ h2
  exact ⟨l1.toArray, l2.toArray, n, m, g1, g2, by simpa using r1, by simpa using r2⟩
theorem eqItems_cons {x y : D} {xs ys : List D} {k k' : Nat} {b : Bool} (h : eqItems eqt (x :: xs) (y :: ys) k = some (b, k')) : ∃ b1 k1, eqItem eqt x y k = some (b1, k1) ∧ ((b1 = true ∧ eqItems eqt xs ys k1 = some (b, k')) ∨ (b1 = false ∧ b = false ∧ k' = k1)) := by
  obtain ⟨b1, k1, e1, e2⟩ := M.bind_some h
  refine ⟨b1, k1, e1, ?_⟩
  cases b1 with
  | true => exact .inl ⟨rfl, e2⟩
  | false =>
    obtain ⟨rfl, rfl⟩ := M.pure_some e2
    exact .inr ⟨rfl, rfl, rfl⟩
/-- what the loop over two lists needs, for both operators -/
theorem leq_two (kit : KitOk G) (hK : X.K = G.K) (hE : EqOk G X eqt) (hu : X.A.units + 65 < cLine) {H I : Hp} {k k' : Nat} {a a2 : Addr} {vs us : List V} {xs ys : List D} {b : Bool} (hlen : xs.length = ys.length)
    (dne : ∀ (I' H' : Hp) (kk : Nat), Step G I H I' H' kk → H' a = some (.lst vs) ∧ H' a2 = some (.lst us)) (r1 : RepL G I vs xs) (r2 : RepL G I us ys) :
    SkyQ.Two X.prog X.w X.A X.xe a a2 xs.length (fun i t => i ≤ xs.length ∧ ∃ I1 H1 k1, Inv X pins σ H1 t ∧ Step G I H I1 H1 k1 ∧ eqItems eqt (xs.drop i) (ys.drop i) k1 = some (b, k')) (fun t => b = false ∧ ∃ I1 H1, Inv X pins σ H1 t ∧ Step G I H I1 H1 k') := by
  rintro i t ⟨hi, I1, H1, k1, J, st, he⟩
  obtain ⟨g1, g2⟩ := dne _ _ _ st
  obtain ⟨its, its2, n, m, z1, z2, v1, v2⟩ := stand_of (I := I1) (H := H1) (I1 := I1) (k1 := k1) kit J g1 g2
  have n1 : its.size = xs.length := by have := v1.length; rw [r1.length] at this; simpa using this.symm
  have n2 : its2.size = xs.length := by have := v2.length; rw [r2.length] at this; rw [hlen]; simpa using this.symm
  refine ⟨its, its2, n, m, z1, z2, n1, n2, fun h1 h2 => ?_⟩
  have l1 : i < xs.length := by omega
  have l2 : i < ys.length := by omega
  have l3 : i < vs.length := by rw [r1.length]; exact l1
  have l4 : i < us.length := by rw [r2.length]; exact l2
  obtain ⟨p, hp, rp⟩ := v1.get (List.getElem?_eq_getElem l3)
  obtain ⟨q, hq, rq⟩ := v2.get (List.getElem?_eq_getElem l4)
  have ep : its[i] = p := by simpa [h1] using hp
  have eq : its2[i] = q := by simpa [h2] using hq
  subst ep eq
  obtain ⟨d, hd, rd⟩ := r1.getV (List.getElem?_eq_getElem l3)
  obtain ⟨e, hde, re⟩ := r2.getV (List.getElem?_eq_getElem l4)
  rw [drop_at hd, drop_at hde] at he
  obtain ⟨b1, k2, e1, e2⟩ := eqItems_cons he
  refine wpAny_mono (item_ok kit hK hE hu J st.w rp rq (rd.sub st.sub) (re.sub st.sub) e1) (fun r t' ⟨er, I2, H2, J2, st2⟩ => ?_) fun _ _ x => x
  subst er
  rcases e2 with ⟨rfl, e2⟩ | ⟨rfl, rfl, rfl⟩
  · exact .inl ⟨rfl, l1, I2, H2, k2, J2, st.trans st2, e2⟩
  · refine .inr ⟨rfl, ?_, rfl, I2, H2, J2, st.trans st2⟩
    obtain ⟨g3, g4⟩ := dne _ _ _ (st.trans st2)
    obtain ⟨us1, us2, n', m', y1, y2, w1, w2⟩ := stand_of (I := I1) (H := H1) (I1 := I1) (k1 := k1) kit J2 g3 g4
    exact ⟨us1, us2, n', m', y1, y2, by have := w1.length; rw [r1.length] at this; simpa using this.symm, by have := w2.length; rw [r2.length] at this; rw [hlen]; simpa using this.symm⟩
theorem lst_stays {I H : Hp} {v : V} {ds : List D} (w : Sub I H) (h : RepB G I H v (.lst ds)) : ∃ a vs, v = .ref a ∧ H a = some (.lst vs) ∧ RepL G I vs ds ∧ ∀ (I' H' : Hp) (kk : Nat), Step G I H I' H' kk → H' a = some (.lst vs) := by
  rcases h with h | ⟨a, e, ⟨vs, h, r⟩, _, qd⟩
  · cases h with
    | lst h r => exact ⟨_, _, rfl, w _ _ h, r, fun I' H' kk s => s.w.inH _ _ (s.sub _ _ h)⟩
  · exact ⟨a, vs, e, h, r, fun I' H' kk s => s.same _ _ h qd⟩
theorem op_leq (kit : KitOk G) (hK : X.K = G.K) (hE : EqOk G X eqt) (hu : X.A.units + 65 < cLine) : OpR X (compareOp .Eq) (rLeq G eqt false) := by
  intro pins s σ H x y v u Q J rx ry h
  obtain ⟨I, k, d, e, b, k', w, hx, hy, he, q⟩ := h
  cases d <;> cases e <;> simp only [leqD] at he <;> try cases he
  rename_i xs ys
  by_cases hl : xs.length = ys.length
  · rw [if_pos hl] at he
    obtain ⟨a, vs, rfl, h1, r1, st1⟩ := lst_stays w.inH hx
    obtain ⟨a2, us, rfl, h2, r2, st2⟩ := lst_stays w.inH hy
    cases rx
    cases ry
    show wpAny (model X.prog X.w) X.A (richCompare .Eq (.ref a) (.ref a2)) (EP X pins σ Q) X.xe s
    refine SkyQ.eqRc (by omega) _ _ (leq_two (k := k) kit hK hE hu hl (fun I' H' kk s => ⟨st1 _ _ _ s, st2 _ _ _ s⟩) r1 r2) ?_ ?_ ⟨Nat.zero_le _, I, H, k, J, Step.refl w, he⟩
    · rintro t ⟨_, I1, H1, k1, J1, s1, e1⟩
      rw [List.drop_of_length_le (Nat.le_refl _), List.drop_of_length_le (by omega)] at e1
      obtain ⟨rfl, rfl⟩ := M.pure_some e1
      exact ⟨.bl true, H1, J1, rfl, q _ _ s1⟩
    · rintro t ⟨rfl, I1, H1, J1, s1⟩
      exact ⟨.bl false, H1, J1, rfl, q _ _ s1⟩
  · rw [if_neg hl] at he; cases he
theorem op_lne (kit : KitOk G) (hK : X.K = G.K) (hE : EqOk G X eqt) (hu : X.A.units + 65 < cLine) : OpR X (compareOp .NotEq) (rLeq G eqt true) := by
  intro pins s σ H x y v u Q J rx ry h
  obtain ⟨I, k, d, e, b, k', w, hx, hy, he, q⟩ := h
  cases d <;> cases e <;> simp only [leqD] at he <;> try cases he
  rename_i xs ys
  by_cases hl : xs.length = ys.length
  · rw [if_pos hl] at he
    obtain ⟨a, vs, rfl, h1, r1, st1⟩ := lst_stays w.inH hx
    obtain ⟨a2, us, rfl, h2, r2, st2⟩ := lst_stays w.inH hy
    cases rx
    cases ry
    show wpAny (model X.prog X.w) X.A (richCompare .NotEq (.ref a) (.ref a2)) (EP X pins σ Q) X.xe s
    refine SkyQ.neRc (by omega) _ _ (leq_two (k := k) kit hK hE hu hl (fun I' H' kk s => ⟨st1 _ _ _ s, st2 _ _ _ s⟩) r1 r2) ?_ ?_ ⟨Nat.zero_le _, I, H, k, J, Step.refl w, he⟩
    · rintro t ⟨_, I1, H1, k1, J1, s1, e1⟩
      rw [List.drop_of_length_le (Nat.le_refl _), List.drop_of_length_le (by omega)] at e1
      obtain ⟨rfl, rfl⟩ := M.pure_some e1
      exact ⟨.bl false, H1, J1, rfl, q _ _ s1⟩
    · rintro t ⟨rfl, I1, H1, J1, s1⟩
      exact ⟨.bl true, H1, J1, rfl, q _ _ s1⟩
  · rw [if_neg hl] at he; cases he
-- ### in a list 
def linD (eqt : Eqt) (x y : D) : M Bool := match y with
  | .lst ys => inItems eqt x ys
  | _ => M.fail
def rLin (G : Gh) (eqt : Eqt) (neg : Bool) : R2 := fun x y H Q => ∃ I k d e b k', WOk G I H k ∧ Rep G I x d ∧ RepB G I H y e ∧ linD eqt d e k = some (b, k') ∧ ∀ I' H', Step G I H I' H' k' → Q (.bl (xor neg b)) H'
theorem lin_any (kit : KitOk G) (hK : X.K = G.K) (hE : EqOk G X eqt) (hu : X.A.units + 65 < cLine) {H I : Hp} {k k' : Nat} {x y : V} {v u : Value} {d e : D} {b : Bool} {t : Shared} {Q : Bool → Shared → Prop} (J : Inv X pins σ H t) (rx : RelV x v) (ry : RelV y u) (w : WOk G I H k) (hx : Rep G I x d) (hy : RepB G I H y e) (he : linD eqt d e k = some (b, k'))
    (q : ∀ I' H' t', Inv X pins σ H' t' → Step G I H I' H' k' → Q b t') : wpAny (model X.prog X.w) X.A (contains u v) Q X.xe t := by
  cases e <;> simp only [linD] at he <;> try cases he
  rename_i ys
  obtain ⟨a, us, rfl, h1, r1, st1⟩ := lst_stays w.inH hy
  cases ry
  refine SkyQ.inCall (N := ys.length) (fun i t => i ≤ ys.length ∧ ∃ I1 H1 k1, Inv X pins σ H1 t ∧ Step G I H I1 H1 k1 ∧ inItems eqt d (ys.drop i) k1 = some (b, k')) (fun t => b = true ∧ ∃ I1 H1, Inv X pins σ H1 t ∧ Step G I H I1 H1 k') ?_ ?_ ?_ ⟨Nat.zero_le _, I, H, k, J, Step.refl w, he⟩
  · rintro i t ⟨hi, I1, H1, k1, J1, s1, e1⟩
    obtain ⟨its, _, n, _, z1, _, v1, _⟩ := stand_of (I := I1) (H := H1) (I1 := I1) (k1 := k1) kit J1 (st1 _ _ _ s1) (st1 _ _ _ s1)
    have n1 : its.size = ys.length := by have := v1.length; rw [r1.length] at this; simpa using this.symm
    refine ⟨its, n, z1, n1, fun h => ?_⟩
    have l1 : i < ys.length := by omega
    have l3 : i < us.length := by rw [r1.length]; exact l1
    obtain ⟨p, hp, rp⟩ := v1.get (List.getElem?_eq_getElem l3)
    have ep : its[i] = p := by simpa [h] using hp
    subst ep
    obtain ⟨d2, hd, rd⟩ := r1.getV (List.getElem?_eq_getElem l3)
    rw [drop_at hd] at e1
    obtain ⟨b1, k2, e2, e3⟩ := M.bind_some e1
    refine wpAny_mono (item_ok kit hK hE hu J1 s1.w rp rx (rd.sub s1.sub) (hx.sub s1.sub) e2) (fun r t' ⟨er, I2, H2, J2, s2⟩ => ?_) fun _ _ x => x
    subst er
    cases r with
    | true =>
      obtain ⟨rfl, rfl⟩ := M.pure_some e3
      exact .inr ⟨rfl, rfl, I2, H2, J2, s1.trans s2⟩
    | false => exact .inl ⟨rfl, l1, I2, H2, k2, J2, s1.trans s2, e3⟩
  · rintro t ⟨_, I1, H1, k1, J1, s1, e1⟩
    rw [List.drop_of_length_le (Nat.le_refl _)] at e1
    obtain ⟨rfl, rfl⟩ := M.pure_some e1
    exact q _ _ _ J1 s1
  · rintro t ⟨rfl, I1, H1, J1, s1⟩
    exact q _ _ _ J1 s1
theorem op_lin (kit : KitOk G) (hK : X.K = G.K) (hE : EqOk G X eqt) (hu : X.A.units + 65 < cLine) : OpR X (compareOp .In) (rLin G eqt false) := by
  intro pins s σ H x y v u Q J rx ry h
  obtain ⟨I, k, d, e, b, k', w, hx, hy, he, q⟩ := h
  have hr : ∃ a, u = .ref a := by
    cases e <;> simp only [linD] at he <;> try cases he
    obtain ⟨a, _, rfl, _⟩ := hy.lst w.inH
    cases ry
    exact ⟨a, rfl⟩
  obtain ⟨a, rfl⟩ := hr
  exact SkyQ.inOp (lin_any kit hK hE hu J rx ry w hx hy he fun I' H' t' J' s' => ⟨.bl b, H', J', rfl, by have := q I' H' s'; rw [Bool.false_xor] at this; exact this⟩)
theorem op_lnotIn (kit : KitOk G) (hK : X.K = G.K) (hE : EqOk G X eqt) (hu : X.A.units + 65 < cLine) : OpR X (compareOp .NotIn) (rLin G eqt true) := by
  intro pins s σ H x y v u Q J rx ry h
  obtain ⟨I, k, d, e, b, k', w, hx, hy, he, q⟩ := h
  have hr : ∃ a, u = .ref a := by
    cases e <;> simp only [linD] at he <;> try cases he
    obtain ⟨a, _, rfl, _⟩ := hy.lst w.inH
    cases ry
    exact ⟨a, rfl⟩
  obtain ⟨a, rfl⟩ := hr
  exact SkyQ.notInOp (lin_any kit hK hE hu J rx ry w hx hy he fun I' H' t' J' s' => ⟨.bl (!b), H', J', rfl, by have := q I' H' s'; rw [Bool.true_xor] at this; exact this⟩)

-- ### as expressions and tests 
def dM2 (neg : Bool) (g : D → D → M Bool) (f1 f2 : Sem) : SemB := fun ρ => M.bind (f1 ρ) fun x => M.bind (f2 ρ) fun y => M.bind (g x y) fun b => M.pure (xor neg b)
theorem td_leq {neg : Bool} {f g : Sem} {σ : List (Option V)} {H : Hp} {Q : Bool → Hp → Prop} (hq : tDB G (dM2 neg (leqD eqt) f g) σ H Q) : tOp (rLeq G eqt neg) (tDR G f) (tDR G g) σ H (fun x H' => ∃ k, x = .bl k ∧ Q k H') := by
  obtain ⟨I0, H0, I, k, ρ, d, k', F, e, q⟩ := hq
  obtain ⟨x, k1, e1, e⟩ := M.bind_some e
  obtain ⟨y, k2, e2, e⟩ := M.bind_some e
  obtain ⟨b, k3, e3, e⟩ := M.bind_some e
  obtain ⟨rfl, rfl⟩ := M.pure_some e
  exact ⟨I0, H0, I, k, ρ, x, k1, F, e1, fun I1 H1 v s1 r1 => ⟨I0, H0, I1, k1, ρ, y, k2, F.step s1, e2, fun I2 H2 u s2 r2 => ⟨I2, k2, x, y, b, _, s2.w, r1.step s2, r2, e3, fun I3 H3 s3 => ⟨_, rfl, q I3 H3 ((s1.trans s2).trans s3)⟩⟩⟩⟩
theorem td_lin {neg : Bool} {f g : Sem} {σ : List (Option V)} {H : Hp} {Q : Bool → Hp → Prop} (hq : tDB G (dM2 neg (linD eqt) f g) σ H Q) : tOp (rLin G eqt neg) (tD G f) (tDR G g) σ H (fun x H' => ∃ k, x = .bl k ∧ Q k H') := by
  obtain ⟨I0, H0, I, k, ρ, d, k', F, e, q⟩ := hq
  obtain ⟨x, k1, e1, e⟩ := M.bind_some e
  obtain ⟨y, k2, e2, e⟩ := M.bind_some e
  obtain ⟨b, k3, e3, e⟩ := M.bind_some e
  obtain ⟨rfl, rfl⟩ := M.pure_some e
  exact ⟨I0, H0, I, k, ρ, x, k1, F, e1, fun I1 H1 v s1 r1 => ⟨I0, H0, I1, k1, ρ, y, k2, F.step s1, e2, fun I2 H2 u s2 r2 => ⟨I2, k2, x, y, b, _, s2.w, r1.sub s2.sub, r2, e3, fun I3 H3 s3 => ⟨_, rfl, q I3 H3 ((s1.trans s2).trans s3)⟩⟩⟩⟩
section
variable {a b : Expr} {f g : Sem} (hK : X.K = G.K) (kit : KitOk G) (hE : EqOk G X eqt) (hu : X.A.units + 65 < cLine)
include hK kit hE hu
theorem dt_leq (ha : DR G X a f) (hb : DR G X b g) (hm : behindInMarks .Eq b = false) : DT G X (.Compare a [.Eq] [b] pos) (dM2 false (leqD eqt) f g) := PT.mono (pt_cmpR (op_leq kit hK hE hu) ha hb hm) fun σ H Q hq => td_leq hq
theorem dt_lne (ha : DR G X a f) (hb : DR G X b g) (hm : behindInMarks .NotEq b = false) : DT G X (.Compare a [.NotEq] [b] pos) (dM2 true (leqD eqt) f g) := PT.mono (pt_cmpR (op_lne kit hK hE hu) ha hb hm) fun σ H Q hq => td_leq hq
theorem dt_lin (ha : DE G X a f) (hb : DR G X b g) (hm : behindInMarks .In b = false) : DT G X (.Compare a [.In] [b] pos) (dM2 false (linD eqt) f g) := PT.mono (pt_cmpR (op_lin kit hK hE hu) ha hb hm) fun σ H Q hq => td_lin hq
theorem dt_lnotIn (ha : DE G X a f) (hb : DR G X b g) (hm : behindInMarks .NotIn b = false) : DT G X (.Compare a [.NotIn] [b] pos) (dM2 true (linD eqt) f g) := PT.mono (pt_cmpR (op_lnotIn kit hK hE hu) ha hb hm) fun σ H Q hq => td_lin hq
end
/-- as values -/
theorem td_leqV {neg : Bool} {f g : Sem} {σ : List (Option V)} {H : Hp} {Q : VK} (hq : tD G (dVal (dM2 neg (leqD eqt) f g)) σ H Q) : tOp (rLeq G eqt neg) (tDR G f) (tDR G g) σ H Q := by
  obtain ⟨I0, H0, I, k, ρ, d, k', F, e, q⟩ := td_val hq
  obtain ⟨x, k1, e1, e⟩ := M.bind_some e
  obtain ⟨y, k2, e2, e⟩ := M.bind_some e
  obtain ⟨b, k3, e3, e⟩ := M.bind_some e
  obtain ⟨rfl, rfl⟩ := M.pure_some e
  exact ⟨I0, H0, I, k, ρ, x, k1, F, e1, fun I1 H1 v s1 r1 => ⟨I0, H0, I1, k1, ρ, y, k2, F.step s1, e2, fun I2 H2 u s2 r2 => ⟨I2, k2, x, y, b, _, s2.w, r1.step s2, r2, e3, fun I3 H3 s3 => q I3 H3 ((s1.trans s2).trans s3)⟩⟩⟩
theorem td_linV {neg : Bool} {f g : Sem} {σ : List (Option V)} {H : Hp} {Q : VK} (hq : tD G (dVal (dM2 neg (linD eqt) f g)) σ H Q) : tOp (rLin G eqt neg) (tD G f) (tDR G g) σ H Q := by
  obtain ⟨I0, H0, I, k, ρ, d, k', F, e, q⟩ := td_val hq
  obtain ⟨x, k1, e1, e⟩ := M.bind_some e
  obtain ⟨y, k2, e2, e⟩ := M.bind_some e
  obtain ⟨b, k3, e3, e⟩ := M.bind_some e
  obtain ⟨rfl, rfl⟩ := M.pure_some e
  exact ⟨I0, H0, I, k, ρ, x, k1, F, e1, fun I1 H1 v s1 r1 => ⟨I0, H0, I1, k1, ρ, y, k2, F.step s1, e2, fun I2 H2 u s2 r2 => ⟨I2, k2, x, y, b, _, s2.w, r1.sub s2.sub, r2, e3, fun I3 H3 s3 => q I3 H3 ((s1.trans s2).trans s3)⟩⟩⟩
section
variable {a b : Expr} {f g : Sem} (hK : X.K = G.K) (kit : KitOk G) (hE : EqOk G X eqt) (hu : X.A.units + 65 < cLine)
include hK kit hE hu
theorem de_leq (ha : DR G X a f) (hb : DR G X b g) (hm : behindInMarks .Eq b = false) : DE G X (.Compare a [.Eq] [b] pos) (dVal (dM2 false (leqD eqt) f g)) := PE.mono (pe_cmpR (op_leq kit hK hE hu) ha hb hm) fun σ H Q hq => td_leqV hq
theorem de_lne (ha : DR G X a f) (hb : DR G X b g) (hm : behindInMarks .NotEq b = false) : DE G X (.Compare a [.NotEq] [b] pos) (dVal (dM2 true (leqD eqt) f g)) := PE.mono (pe_cmpR (op_lne kit hK hE hu) ha hb hm) fun σ H Q hq => td_leqV hq
theorem de_lin (ha : DE G X a f) (hb : DR G X b g) (hm : behindInMarks .In b = false) : DE G X (.Compare a [.In] [b] pos) (dVal (dM2 false (linD eqt) f g)) := PE.mono (pe_cmpR (op_lin kit hK hE hu) ha hb hm) fun σ H Q hq => td_linV hq
theorem de_lnotIn (ha : DE G X a f) (hb : DR G X b g) (hm : behindInMarks .NotIn b = false) : DE G X (.Compare a [.NotIn] [b] pos) (dVal (dM2 true (linD eqt) f g)) := PE.mono (pe_cmpR (op_lnotIn kit hK hE hu) ha hb hm) fun σ H Q hq => td_linV hq
end
end
end Sky

end
section
set_option maxHeartbeats 0
namespace Sky
open PySem PySem.Spec PyProof.Rows L2
def top (i : Nat) : Stmt := PySem.Challenge.pw_skyplaced_k94_turns_seen_from_turns.main.body.getD i (.Pass ⟨0, 0, 0, 0⟩)
def dD (p : Str × Option Str) (x q : Str) (st : Stmt) : He.DefD := ⟨p, x, q, defArgs st, defBody st, defScope st, [], []⟩
def dd_is_integer : He.DefD := dD ("is_integer", none) "is_integer" "is_integer" (top 5)
def dd_is_number : He.DefD := dD ("is_number", none) "is_number" "is_number" (top 6)
def dd_check_number : He.DefD := dD ("check_number", none) "check_number" "check_number" (top 7)
def dd_is_row : He.DefD := dD ("is_row", none) "is_row" "is_row" (top 8)
def dd_common : He.DefD := dD ("common", none) "common" "common" (top 9)
def dd_lowest : He.DefD := dD ("lowest", none) "lowest" "lowest" (top 10)
def dd_check_hands : He.DefD := dD ("check_hands", none) "check_hands" "check_hands" (top 11)
def dd_is_triple : He.DefD := dD ("is_triple", none) "is_triple" "is_triple" (top 13)
def dd_check_triple : He.DefD := dD ("check_triple", none) "check_triple" "check_triple" (top 14)
def dd_least : He.DefD := dD ("least", none) "least" "least" (top 15)
def dd_opposite : He.DefD := dD ("opposite", none) "opposite" "opposite" (top 16)
def dd_dot : He.DefD := dD ("dot", none) "dot" "dot" (top 17)
def dd_cross : He.DefD := dD ("cross", none) "cross" "cross" (top 18)
def dd_det : He.DefD := dD ("det", none) "det" "det" (top 19)
def dd_times : He.DefD := dD ("times", none) "times" "times" (top 20)
def dd_is_on_line : He.DefD := dD ("is_on_line", none) "is_on_line" "is_on_line" (top 21)
def dd_root : He.DefD := dD ("root", none) "root" "root" (top 22)
def dd_ratio : He.DefD := dD ("ratio", none) "ratio" "ratio" (top 23)
def dd_are_alike : He.DefD := dD ("are_alike", none) "are_alike" "are_alike" (top 24)
def dd_size_of : He.DefD := dD ("size_of", none) "size_of" "size_of" (top 25)
def dd_Turn___init__ : He.DefD := dD ("Turn", some "__init__") "__init__" "Turn.__init__" (inClass (top 27) 0)
def dd_Turn___eq__ : He.DefD := dD ("Turn", some "__eq__") "__eq__" "Turn.__eq__" (inClass (top 27) 1)
def dd_Turn_is_mirrored : He.DefD := dD ("Turn", some "is_mirrored") "is_mirrored" "Turn.is_mirrored" (inClass (top 27) 2)
def dd_check_turn : He.DefD := dD ("check_turn", none) "check_turn" "check_turn" (top 28)
def dd_no_turn : He.DefD := dD ("no_turn", none) "no_turn" "no_turn" (top 29)
def dd_mirror : He.DefD := dD ("mirror", none) "mirror" "mirror" (top 30)
def dd_turn_by : He.DefD := dD ("turn_by", none) "turn_by" "turn_by" (top 31)
def dd_apply : He.DefD := dD ("apply", none) "apply" "apply" (top 32)
def dd_back : He.DefD := dD ("back", none) "back" "back" (top 33)
def dd_then : He.DefD := dD ("then", none) "then" "then" (top 34)
def dd_turns_between : He.DefD := dD ("turns_between", none) "turns_between" "turns_between" (top 35)
def dd_found_between : He.DefD := dD ("found_between", none) "found_between" "found_between" (top 36)
def dd_turn_of : He.DefD := dD ("turn_of", none) "turn_of" "turn_of" (top 37)
def dd_axis_of : He.DefD := dD ("axis_of", none) "axis_of" "axis_of" (top 38)
def dd_order_of : He.DefD := dD ("order_of", none) "order_of" "order_of" (top 39)
def dd_turn_at : He.DefD := dD ("turn_at", none) "turn_at" "turn_at" (top 42)
def dd_hours_of_day : He.DefD := dD ("hours_of_day", none) "hours_of_day" "hours_of_day" (top 43)
def dd__law_number : He.DefD := dD ("_law_number", none) "_law_number" "_law_number" (top 45)
def dd__law_take : He.DefD := dD ("_law_take", none) "_law_take" "_law_take" (top 46)
def dd__law_pick : He.DefD := dD ("_law_pick", none) "_law_pick" "_law_pick" (top 47)
def dd__law_sky : He.DefD := dD ("_law_sky", none) "_law_sky" "_law_sky" (top 48)
def dd__law_by : He.DefD := dD ("_law_by", none) "_law_by" "_law_by" (top 49)
def dd__law_glass : He.DefD := dD ("_law_glass", none) "_law_glass" "_law_glass" (top 50)
def dd_law : He.DefD := dD ("law", none) "law" "law" (top 51)
def fn : List He.DefD := [dd_is_integer, dd_is_number, dd_check_number, dd_is_row, dd_common, dd_lowest, dd_check_hands, dd_is_triple, dd_check_triple, dd_least, dd_opposite, dd_dot, dd_cross, dd_det, dd_times, dd_is_on_line, dd_root, dd_ratio, dd_are_alike, dd_size_of, dd_Turn___init__, dd_Turn___eq__, dd_Turn_is_mirrored, dd_check_turn, dd_no_turn, dd_mirror, dd_turn_by, dd_apply, dd_back, dd_then, dd_turns_between, dd_found_between, dd_turn_of, dd_axis_of, dd_order_of, dd_turn_at, dd_hours_of_day, dd__law_number, dd__law_take, dd__law_pick, dd__law_sky, dd__law_by, dd__law_glass, dd_law]
def fa : List He.Fa := [.glo "is_integer", .glo "is_number", .glo "check_number", .glo "is_row", .glo "common", .glo "lowest", .glo "check_hands", .glo "is_triple", .glo "check_triple", .glo "least", .glo "opposite", .glo "dot", .glo "cross", .glo "det", .glo "times", .glo "is_on_line", .glo "root", .glo "ratio", .glo "are_alike", .glo "size_of", .glo "check_turn", .glo "no_turn", .glo "mirror", .glo "turn_by", .glo "apply", .glo "back", .glo "then", .glo "turns_between", .glo "found_between", .glo "turn_of", .glo "axis_of", .glo "order_of", .glo "turn_at", .glo "hours_of_day", .glo "_law_number", .glo "_law_take", .glo "_law_pick", .glo "_law_sky", .glo "_law_by", .glo "_law_glass", .glo "law", .glo "Turn", .glo "HANDS", .free "isinstance", .free "len", .free "all", .free "any", .free "sum", .free "zip", .free "enumerate", .free "range", .free "tuple", .free "list", .free "max", .free "abs", .free "str", .free "int", .free "bool", .free "super", .mkr "Turn", .meth "Turn" "__eq__", .meth "Turn" "is_mirrored", .int "MOST_HOURS" 99]
def cs : List Cn := [.Turn]
abbrev Bn := Bun cs fa fn
abbrev R : PySem.W.OpenRow := PySem.W.OpenLaw.row PySem.Challenge.rw_skyplaced_k94_turns_seen_from_turns
abbrev hk : PySem.W.Hook := hookC 5 cs fa fn
def ob (s : PySem.W.SharedT) : He.AlD := obsCG 5 cs fa fn (HandSHeadRun.getT s)
theorem ob_eq (s : PySem.W.SharedT) : ob s = hk.obs s.abs := obsCG_eq (HandSHeadRun.getT_eq s)
def loose0 : List Str := ["SkyError", "BadPart", "HANDS", "is_integer", "is_number", "check_number", "is_row", "common", "lowest", "check_hands", "is_triple", "check_triple", "least", "opposite", "dot", "cross", "det", "times", "is_on_line", "root"]
def loose1 : List Str := ["ratio", "are_alike", "size_of", "Turn", "check_turn", "no_turn", "mirror", "turn_by", "apply", "back", "then", "turns_between", "found_between", "turn_of", "axis_of", "order_of", "MOST_HOURS", "turn_at", "hours_of_day", "_law_number"]
def loose2 : List Str := ["_law_take", "_law_pick", "_law_sky", "_law_by", "_law_glass"]
def loose : List Str := loose0 ++ loose1 ++ loose2
theorem run (w : World) : HandSHeadRun.RunEq R (PySem.W.view R.prog [51]) hk ob 6000 loose w := by
  intro os
  kernel_rfl
end Sky
end
section
set_option maxHeartbeats 0
namespace Sky
open PySem PySem.Spec PyProof.Rows L2
def N_Turn___eq__ : List Str := ["self", "other"]
theorem sc_Turn___eq__ : FnScope N_Turn___eq__ ["self", "other"] (defScope (inClass (top 27) 1)) := ⟨rfl, rfl, rfl, by decide +kernel, rfl, by decide +kernel, by decide +kernel⟩
def S_Turn___eq__ : SemS := sSeq (sRet (dAndV (dIsi (.own .Turn) (dV 1)) (dEq eq0 false (dTup (dCons (dFld "rows" (dV 0)) (dCons (dFld "below" (dV 0)) (dNil)))) (dTup (dCons (dFld "rows" (dV 1)) (dCons (dFld "below" (dV 1)) (dNil))))))) (sNext)
def F_Turn___eq__ : Fn := runB 2 (S_Turn___eq__)
theorem ok_Turn___eq__ (B : Bn) : B.Ok ("Turn", some "__eq__") 1 2 (F_Turn___eq__) := by
  obtain ⟨fd, F⟩ := B.say.def_ (d := dd_Turn___eq__) 21 rfl
  exact Bun.ok (k := 0) (N := N_Turn___eq__) (ps := ["self", "other"]) (S := S_Turn___eq__) F sc_Turn___eq__ (fun _ _ _ _ _ _ us hl => match us, hl with | [_, _], _ => rfl) fun da me cdv A outer s H E i => (show DSs (B.G da me) (B.X N_Turn___eq__ dd_Turn___eq__.qual dd_Turn___eq__.scope (He.fAd B.K ("Turn", some "__eq__")) cdv A outer s H E) (defBody (inClass (top 27) 1)) (S_Turn___eq__) from dss_cons (ds_ret (de_and rfl (de_isi rfl Bun.kit rfl (Bun.free 43 rfl) (Bun.klv (B.say.fact 41 rfl)) (DE.toR (de_var (pv 1))) (pe_own rfl (Bun.glo 41 rfl)) rfl rfl rfl) (de_one (de_eq rfl Bun.kit Bun.eq0Ok i.room.units (DE.toR (de_tup (da_cons (de_fld rfl (Bun.kit.cls) (de_var (pv 0)) rfl) (da_cons (de_fld rfl (Bun.kit.cls) (de_var (pv 0)) rfl) (da_nil) rfl) rfl))) (de_tup (da_cons (de_fld rfl (Bun.kit.cls) (de_var (pv 1)) rfl) (da_cons (de_fld rfl (Bun.kit.cls) (de_var (pv 1)) rfl) (da_nil) rfl) rfl)) rfl)))) (dss_nil))
def eqT : Eqt := fun c => match c with
  | .Turn => some F_Turn___eq__
  | _ => none
theorem eqRow (B : Bn) {k : Nat} (hk : 2 ≤ k) : B.EqRow k eqT := by
  intro c F h
  cases c <;> first | (cases h; first | exact ⟨1, Nat.le_trans (by decide) hk, ok_Turn___eq__ B, B.say.fact 60 rfl⟩) | (cases h)
def N_is_integer : List Str := ["thing"]
theorem sc_is_integer : FnScope N_is_integer ["thing"] (defScope (top 5)) := ⟨rfl, rfl, rfl, by decide +kernel, rfl, by decide +kernel, by decide +kernel⟩
def S_is_integer : SemS := sSeq (sRet (dAndV (dIsi .int (dV 0)) (dNotV (dIsi .bool (dV 0))))) (sNext)
def F_is_integer : Fn := runB 1 (S_is_integer)
theorem ok_is_integer (B : Bn) : B.Ok ("is_integer", none) 1 1 (F_is_integer) := by
  obtain ⟨fd, F⟩ := B.say.def_ (d := dd_is_integer) 0 rfl
  exact Bun.ok (k := 0) (N := N_is_integer) (ps := ["thing"]) (S := S_is_integer) F sc_is_integer (fun _ _ _ _ _ _ us hl => match us, hl with | [_], _ => rfl) fun da me cdv A outer s H E i => (show DSs (B.G da me) (B.X N_is_integer dd_is_integer.qual dd_is_integer.scope (He.fAd B.K ("is_integer", none)) cdv A outer s H E) (defBody (top 5)) (S_is_integer) from dss_cons (ds_ret (de_and rfl (de_isi rfl Bun.kit rfl (Bun.free 43 rfl) rfl (DE.toR (de_var (pv 0))) (pe_tyB "int" rfl (Bun.free 56 rfl) (by decide +kernel)) rfl rfl rfl) (de_one (de_not rfl (DE.toR (de_isi rfl Bun.kit rfl (Bun.free 43 rfl) rfl (DE.toR (de_var (pv 0))) (pe_tyB "bool" rfl (Bun.free 57 rfl) (by decide +kernel)) rfl rfl rfl)))))) (dss_nil))
def N_is_number : List Str := ["thing", "low", "high"]
theorem sc_is_number : FnScope N_is_number ["thing", "low", "high"] (defScope (top 6)) := ⟨rfl, rfl, rfl, by decide +kernel, rfl, by decide +kernel, by decide +kernel⟩
def S_is_number : SemS := sSeq (sRet (dAndV (dCall 1 F_is_integer (dCons (dV 0) (dNil))) (dVal (dChain cLe cLe (dV 1) (dV 0) (dV 2))))) (sNext)
def F_is_number : Fn := runB 3 (S_is_number)
theorem ok_is_number (B : Bn) : B.Ok ("is_number", none) 2 3 (F_is_number) := by
  obtain ⟨fd, F⟩ := B.say.def_ (d := dd_is_number) 1 rfl
  exact Bun.ok (k := 1) (N := N_is_number) (ps := ["thing", "low", "high"]) (S := S_is_number) F sc_is_number (fun _ _ _ _ _ _ us hl => match us, hl with | [_, _, _], _ => rfl) fun da me cdv A outer s H E i => (show DSs (B.G da me) (B.X N_is_number dd_is_number.qual dd_is_number.scope (He.fAd B.K ("is_number", none)) cdv A outer s H E) (defBody (top 6)) (S_is_number) from dss_cons (ds_ret (de_and rfl (de_call (Bun.call (ok_is_integer B) i (by decide) (Bun.glo 0 rfl)) rfl (da_cons (de_var (pv 0)) (da_nil) rfl) rfl rfl rfl) (de_one (de_chain op_le op_le rd_le rd_le (DE.toR (de_var (pv 1))) (DE.toR (de_var (pv 0))) (DE.toR (de_var (pv 2))) rfl)))) (dss_nil))
def N_check_number : List Str := ["part", "thing", "low", "high"]
theorem sc_check_number : FnScope N_check_number ["part", "thing", "low", "high"] (defScope (top 7)) := ⟨rfl, rfl, rfl, by decide +kernel, rfl, by decide +kernel, by decide +kernel⟩
def S_check_number : SemS := sSeq (sIf (dNotB (dTru (dCall 3 F_is_number (dCons (dV 1) (dCons (dV 2) (dCons (dV 3) (dNil))))))) (sFail) (sNext)) (sNext)
def F_check_number : Fn := runB 4 (S_check_number)
theorem ok_check_number (B : Bn) : B.Ok ("check_number", none) 3 4 (F_check_number) := by
  obtain ⟨fd, F⟩ := B.say.def_ (d := dd_check_number) 2 rfl
  exact Bun.ok (k := 2) (N := N_check_number) (ps := ["part", "thing", "low", "high"]) (S := S_check_number) F sc_check_number (fun _ _ _ _ _ _ us hl => match us, hl with | [_, _, _, _], _ => rfl) fun da me cdv A outer s H E i => (show DSs (B.G da me) (B.X N_check_number dd_check_number.qual dd_check_number.scope (He.fAd B.K ("check_number", none)) cdv A outer s H E) (defBody (top 7)) (S_check_number) from dss_cons (ds_if (dt_not (dt_tru rfl (DE.toR (de_call (Bun.call (ok_is_number B) i (by decide) (Bun.glo 1 rfl)) rfl (da_cons (de_var (pv 1)) (da_cons (de_var (pv 2)) (da_cons (de_var (pv 3)) (da_nil) rfl) rfl) rfl) rfl rfl rfl)) (fun _ => rfl))) (dss_fail) (dss_nil)) (dss_nil))
def N_is_row : List Str := ["thing"]
theorem sc_is_row : FnScope N_is_row ["thing"] (defScope (top 8)) := ⟨rfl, rfl, rfl, by decide +kernel, rfl, by decide +kernel, by decide +kernel⟩
def S_is_row : SemS := sSeq (sRet (dIsiT [.list, .tuple] (dV 0))) (sNext)
def F_is_row : Fn := runB 1 (S_is_row)
theorem ok_is_row (B : Bn) : B.Ok ("is_row", none) 1 1 (F_is_row) := by
  obtain ⟨fd, F⟩ := B.say.def_ (d := dd_is_row) 3 rfl
  exact Bun.ok (k := 0) (N := N_is_row) (ps := ["thing"]) (S := S_is_row) F sc_is_row (fun _ _ _ _ _ _ us hl => match us, hl with | [_], _ => rfl) fun da me cdv A outer s H E i => (show DSs (B.G da me) (B.X N_is_row dd_is_row.qual dd_is_row.scope (He.fAd B.K ("is_row", none)) cdv A outer s H E) (defBody (top 8)) (S_is_row) from dss_cons (ds_ret (de_isiT rfl Bun.kit rfl (Bun.free 43 rfl) rfl (DE.toR (de_var (pv 0))) (pa_vs (pe_tyB "list" rfl (Bun.free 52 rfl) (by decide +kernel)) (pa_vs (pe_tyB "tuple" rfl (Bun.free 51 rfl) (by decide +kernel)) (pa_vs_nil) rfl) rfl) (by decide) rfl rfl rfl)) (dss_nil))
def N_common : List Str := ["one", "other"]
theorem sc_common : FnScope N_common ["one", "other"] (defScope (top 9)) := ⟨rfl, rfl, rfl, by decide +kernel, rfl, by decide +kernel, by decide +kernel⟩
def S_common : SemS := sSeq (sPar2 0 1 (dBi bAbs (dCons (dV 0) (dNil))) (dBi bAbs (dCons (dV 1) (dNil)))) (sSeq (sWh (fuelI 1) (dBinB cGtA (dV 1) (dC (.int 0))) (sSeq (sPar2 0 1 (dV 1) (dBin D.mod (dV 0) (dV 1))) (sNext))) (sSeq (sRet (dV 0)) (sNext)))
def F_common : Fn := runB 2 (S_common)
theorem ok_common (B : Bn) : B.Ok ("common", none) 1 2 (F_common) := by
  obtain ⟨fd, F⟩ := B.say.def_ (d := dd_common) 4 rfl
  exact Bun.ok (k := 0) (N := N_common) (ps := ["one", "other"]) (S := S_common) F sc_common (fun _ _ _ _ _ _ us hl => match us, hl with | [_, _], _ => rfl) fun da me cdv A outer s H E i => (show DSs (B.G da me) (B.X N_common dd_common.qual dd_common.scope (He.fAd B.K ("common", none)) cdv A outer s H E) (defBody (top 9)) (S_common) from dss_cons (ds_par2 (ps_par (i := 0) (j := 1) rfl sc_common.nd rfl rfl (by decide) rfl rfl (da_cons (de_callB call_abs bAbs_ok rfl (Bun.free 54 rfl) (by decide +kernel) (dra_cons (DE.toR (de_var (pv 0))) (dra_nil) rfl) (by decide) rfl rfl rfl) (da_cons (de_callB call_abs bAbs_ok rfl (Bun.free 54 rfl) (by decide +kernel) (dra_cons (DE.toR (de_var (pv 1))) (dra_nil) rfl) (by decide) rfl rfl rfl) (da_nil) rfl) rfl) rfl rfl)) (dss_cons (ds_wh (fuelI 1) PassesOwn.never (dc_test (op_gtA i.room.units0) rd_gtA (DE.toR (de_var (pv 1))) (DE.toR (de_const pe_int (fun _ => Rep.int _))) rfl) (dss_cons (ds_par2 (ps_par (i := 0) (j := 1) rfl sc_common.nd rfl rfl (by decide) rfl rfl (da_cons (de_var (pv 1)) (da_cons (de_op op_mod rd_mod (DE.toR (de_var (pv 0))) (DE.toR (de_var (pv 1)))) (da_nil) rfl) rfl) rfl rfl)) (dss_nil))) (dss_cons (ds_ret (de_var (pv 0))) (dss_nil))))
def N_lowest : List Str := ["above", "below", "divisor"]
theorem sc_lowest : FnScope N_lowest ["above", "below"] (defScope (top 10)) := ⟨rfl, rfl, rfl, by decide +kernel, rfl, by decide +kernel, by decide +kernel⟩
def S_lowest : SemS := sSeq (sAsg (dCall 2 F_common (dCons (dV 0) (dCons (dV 1) (dNil)))) (tgName 2)) (sSeq (sRet (dTup (dCons (dBin D.fdiv (dV 0) (dV 2)) (dCons (dBin D.fdiv (dV 1) (dV 2)) (dNil))))) (sNext))
def F_lowest : Fn := runB 3 (S_lowest)
theorem ok_lowest (B : Bn) : B.Ok ("lowest", none) 2 2 (F_lowest) := by
  obtain ⟨fd, F⟩ := B.say.def_ (d := dd_lowest) 5 rfl
  exact Bun.ok (k := 1) (N := N_lowest) (ps := ["above", "below"]) (S := S_lowest) F sc_lowest (fun _ _ _ _ _ _ us hl => match us, hl with | [_, _], _ => rfl) fun da me cdv A outer s H E i => (show DSs (B.G da me) (B.X N_lowest dd_lowest.qual dd_lowest.scope (He.fAd B.K ("lowest", none)) cdv A outer s H E) (defBody (top 10)) (S_lowest) from dss_cons (ds_asg (de_call (Bun.call (ok_common B) i (by decide) (Bun.glo 4 rfl)) rfl (da_cons (de_var (pv 0)) (da_cons (de_var (pv 1)) (da_nil) rfl) rfl) rfl rfl rfl) (dg_name (pg_name sc_lowest.nd rfl (by first | exact Or.inl rfl | exact Or.inr rfl) (by first | exact .inl rfl | exact .inr rfl))) rfl rfl rfl) (dss_cons (ds_ret (de_tup (da_cons (de_op op_fdivW rd_fdiv (DE.toR (de_var (pv 0))) (DE.toR (de_var (pv 2)))) (da_cons (de_op op_fdivW rd_fdiv (DE.toR (de_var (pv 1))) (DE.toR (de_var (pv 2)))) (da_nil) rfl) rfl))) (dss_nil)))
def N_check_hands : List Str := ["hands"]
theorem sc_check_hands : FnScope N_check_hands ["hands"] (defScope (top 11)) := ⟨rfl, rfl, rfl, by decide +kernel, rfl, by decide +kernel, by decide +kernel⟩
def S_check_hands : SemS := sSeq (sIf (dOrB (dNotB (dTru (dIsi .str (dV 0)))) (dBinB cNotIn (dV 0) (dC (.tup (hands3.map .str))))) (sFail) (sNext)) (sNext)
def F_check_hands : Fn := runB 1 (S_check_hands)
theorem ok_check_hands (B : Bn) : B.Ok ("check_hands", none) 1 1 (F_check_hands) := by
  obtain ⟨fd, F⟩ := B.say.def_ (d := dd_check_hands) 6 rfl
  exact Bun.ok (k := 0) (N := N_check_hands) (ps := ["hands"]) (S := S_check_hands) F sc_check_hands (fun _ _ _ _ _ _ us hl => match us, hl with | [_], _ => rfl) fun da me cdv A outer s H E i => (show DSs (B.G da me) (B.X N_check_hands dd_check_hands.qual dd_check_hands.scope (He.fAd B.K ("check_hands", none)) cdv A outer s H E) (defBody (top 11)) (S_check_hands) from dss_cons (ds_if (PW.pt (dw_or (dt_not (dt_tru rfl (DE.toR (de_isi rfl Bun.kit rfl (Bun.free 43 rfl) rfl (DE.toR (de_var (pv 0))) (pe_tyB "str" rfl (Bun.free 55 rfl) (by decide +kernel)) rfl rfl rfl)) (fun _ => rfl))) (dw_or1 (dc_test (op_notInX (room65 i.room)) rd_notIn (DE.toR (de_var (pv 0))) (DE.toR (de_hands 42 rfl rfl rfl)) rfl)))) (dss_fail) (dss_nil)) (dss_nil))
def N_is_triple : List Str := ["thing", "one"]
theorem sc_is_triple : FnScope N_is_triple ["thing"] (defScope (top 13)) := ⟨rfl, rfl, rfl, by decide +kernel, rfl, by decide +kernel, by decide +kernel⟩
def S_is_triple : SemS := sSeq (sIf (dOrB (dNotB (dTru (dIsi .tuple (dV 0)))) (dOrB (dEqB eqT true (dBi bLen (dCons (dV 0) (dNil))) (dC (.int 3))) (dNotB (dTru (dBi bAll (dCons (dLc [1] (dItems (dV 0)) (tgName 1) (dTrue) (dCall 1 F_is_integer (dCons (dV 1) (dNil)))) (dNil))))))) (sSeq (sRet (dC (.bl false))) (sNext)) (sNext)) (sSeq (sRet (dEq eqT true (dV 0) (dTup (dCons (dC (.int 0)) (dCons (dC (.int 0)) (dCons (dC (.int 0)) (dNil))))))) (sNext))
def F_is_triple : Fn := runB 2 (S_is_triple)
theorem ok_is_triple (B : Bn) : B.Ok ("is_triple", none) 3 1 (F_is_triple) := by
  obtain ⟨fd, F⟩ := B.say.def_ (d := dd_is_triple) 7 rfl
  exact Bun.ok (k := 2) (N := N_is_triple) (ps := ["thing"]) (S := S_is_triple) F sc_is_triple (fun _ _ _ _ _ _ us hl => match us, hl with | [_], _ => rfl) fun da me cdv A outer s H E i => (show DSs (B.G da me) (B.X N_is_triple dd_is_triple.qual dd_is_triple.scope (He.fAd B.K ("is_triple", none)) cdv A outer s H E) (defBody (top 13)) (S_is_triple) from dss_cons (ds_if (PW.pt (dw_or (dt_not (dt_tru rfl (DE.toR (de_isi rfl Bun.kit rfl (Bun.free 43 rfl) rfl (DE.toR (de_var (pv 0))) (pe_tyB "tuple" rfl (Bun.free 51 rfl) (by decide +kernel)) rfl rfl rfl)) (fun _ => rfl))) (dw_or (dt_ne rfl Bun.kit (Bun.eqOk (eqRow B (by decide)) i) i.room.units (DE.toR (de_callB call_len bLen_ok rfl (Bun.free 44 rfl) (by decide +kernel) (dra_cons (DE.toR (de_var (pv 0))) (dra_nil) rfl) (by decide) rfl rfl rfl)) (de_const pe_int (fun _ => Rep.int _)) rfl) (dw_or1 (dt_not (dt_tru rfl (DE.toR (de_callB (cr_all rfl) bAll_ok rfl (Bun.free 45 rfl) (by decide +kernel) (dra_cons (DE.toR (de_lc rfl sc_is_triple.nd (di_seq rfl (de_var (pv 0))) (blkOk_by (own := [("one", 1)]) rfl) (fun _ _ _ _ _ => dg_name (pg_name sc_is_triple.nd rfl (by first | exact Or.inl rfl | exact Or.inr rfl) (by first | exact .inl rfl | exact .inr rfl))) (fun _ _ _ _ _ => dts_nil) (fun _ _ _ _ _ => de_call (Bun.call (ok_is_integer B) i.blk (by decide) (Bun.glo 0 rfl)) rfl (da_cons (de_var (pv 1)) (da_nil) rfl) rfl rfl rfl) (by decide) (fun _ => rfl) rfl)) (dra_nil) rfl) (by decide) rfl rfl rfl)) (fun _ => rfl))))))) (dss_cons (ds_ret (de_const pe_bl (fun _ => Rep.bl _))) (dss_nil)) (dss_nil)) (dss_cons (ds_ret (de_ne rfl Bun.kit (Bun.eqOk (eqRow B (by decide)) i) i.room.units (DE.toR (de_var (pv 0))) (de_tup (da_cons (de_const pe_int (fun _ => Rep.int _)) (da_cons (de_const pe_int (fun _ => Rep.int _)) (da_cons (de_const pe_int (fun _ => Rep.int _)) (da_nil) rfl) rfl) rfl)) rfl)) (dss_nil)))
def N_check_triple : List Str := ["part", "thing"]
theorem sc_check_triple : FnScope N_check_triple ["part", "thing"] (defScope (top 14)) := ⟨rfl, rfl, rfl, by decide +kernel, rfl, by decide +kernel, by decide +kernel⟩
def S_check_triple : SemS := sSeq (sIf (dNotB (dTru (dCall 1 F_is_triple (dCons (dV 1) (dNil))))) (sFail) (sNext)) (sNext)
def F_check_triple : Fn := runB 2 (S_check_triple)
theorem ok_check_triple (B : Bn) : B.Ok ("check_triple", none) 4 2 (F_check_triple) := by
  obtain ⟨fd, F⟩ := B.say.def_ (d := dd_check_triple) 8 rfl
  exact Bun.ok (k := 3) (N := N_check_triple) (ps := ["part", "thing"]) (S := S_check_triple) F sc_check_triple (fun _ _ _ _ _ _ us hl => match us, hl with | [_, _], _ => rfl) fun da me cdv A outer s H E i => (show DSs (B.G da me) (B.X N_check_triple dd_check_triple.qual dd_check_triple.scope (He.fAd B.K ("check_triple", none)) cdv A outer s H E) (defBody (top 14)) (S_check_triple) from dss_cons (ds_if (dt_not (dt_tru rfl (DE.toR (de_call (Bun.call (ok_is_triple B) i (by decide) (Bun.glo 7 rfl)) rfl (da_cons (de_var (pv 1)) (da_nil) rfl) rfl rfl rfl)) (fun _ => rfl))) (dss_fail) (dss_nil)) (dss_nil))
def N_least : List Str := ["direction", "divisor", "one"]
theorem sc_least : FnScope N_least ["direction"] (defScope (top 15)) := ⟨rfl, rfl, rfl, by decide +kernel, rfl, by decide +kernel, by decide +kernel⟩
def S_least : SemS := sSeq (sDrop (dCall 2 F_check_triple (dCons (dC (.str "direction")) (dCons (dV 0) (dNil))))) (sSeq (sAsg (dCall 2 F_common (dCons (dCall 2 F_common (dCons (dBin D.ix (dV 0) (dC (.int 0))) (dCons (dBin D.ix (dV 0) (dC (.int 1))) (dNil)))) (dCons (dBin D.ix (dV 0) (dC (.int 2))) (dNil)))) (tgName 1)) (sSeq (sRet (dBi bTup (dCons (dLc [2] (dItems (dV 0)) (tgName 2) (dTrue) (dBin D.fdiv (dV 2) (dV 1))) (dNil)))) (sNext)))
def F_least : Fn := runB 3 (S_least)
theorem ok_least (B : Bn) : B.Ok ("least", none) 5 1 (F_least) := by
  obtain ⟨fd, F⟩ := B.say.def_ (d := dd_least) 9 rfl
  exact Bun.ok (k := 4) (N := N_least) (ps := ["direction"]) (S := S_least) F sc_least (fun _ _ _ _ _ _ us hl => match us, hl with | [_], _ => rfl) fun da me cdv A outer s H E i => (show DSs (B.G da me) (B.X N_least dd_least.qual dd_least.scope (He.fAd B.K ("least", none)) cdv A outer s H E) (defBody (top 15)) (S_least) from dss_cons (ds_expr (de_call (Bun.call (ok_check_triple B) i (by decide) (Bun.glo 8 rfl)) rfl (da_cons (de_const pe_str (fun _ => Rep.str _)) (da_cons (de_var (pv 0)) (da_nil) rfl) rfl) rfl rfl rfl) rfl) (dss_cons (ds_asg (de_call (Bun.call (ok_common B) i (by decide) (Bun.glo 4 rfl)) rfl (da_cons (de_call (Bun.call (ok_common B) i (by decide) (Bun.glo 4 rfl)) rfl (da_cons (de_ix rfl (DE.toR (de_var (pv 0))) (DE.toR (de_const pe_int (fun _ => Rep.int _))) (fun _ _ => rfl)) (da_cons (de_ix rfl (DE.toR (de_var (pv 0))) (DE.toR (de_const pe_int (fun _ => Rep.int _))) (fun _ _ => rfl)) (da_nil) rfl) rfl) rfl rfl rfl) (da_cons (de_ix rfl (DE.toR (de_var (pv 0))) (DE.toR (de_const pe_int (fun _ => Rep.int _))) (fun _ _ => rfl)) (da_nil) rfl) rfl) rfl rfl rfl) (dg_name (pg_name sc_least.nd rfl (by first | exact Or.inl rfl | exact Or.inr rfl) (by first | exact .inl rfl | exact .inr rfl))) rfl rfl rfl) (dss_cons (ds_ret (de_callT call_tuple_of bTup_ok rfl (Bun.free 51 rfl) (by decide +kernel) (dra_cons (DE.toR (de_lc rfl sc_least.nd (di_seq rfl (de_var (pv 0))) (blkOk_by (own := [("one", 2)]) rfl) (fun _ _ _ _ _ => dg_name (pg_name sc_least.nd rfl (by first | exact Or.inl rfl | exact Or.inr rfl) (by first | exact .inl rfl | exact .inr rfl))) (fun _ _ _ _ _ => dts_nil) (fun _ _ _ _ _ => de_op op_fdivW rd_fdiv (DE.toR (de_var (pv 2))) (DE.toR (de_var (pv 1)))) (by decide) (fun _ => rfl) rfl)) (dra_nil) rfl) (by decide) rfl rfl rfl)) (dss_nil))))
def N_opposite : List Str := ["direction", "one"]
theorem sc_opposite : FnScope N_opposite ["direction"] (defScope (top 16)) := ⟨rfl, rfl, rfl, by decide +kernel, rfl, by decide +kernel, by decide +kernel⟩
def S_opposite : SemS := sSeq (sRet (dBi bTup (dCons (dLc [1] (dItems (dCall 1 F_least (dCons (dV 0) (dNil)))) (tgName 1) (dTrue) (dUn D.neg (dV 1))) (dNil)))) (sNext)
def F_opposite : Fn := runB 2 (S_opposite)
theorem ok_opposite (B : Bn) : B.Ok ("opposite", none) 6 1 (F_opposite) := by
  obtain ⟨fd, F⟩ := B.say.def_ (d := dd_opposite) 10 rfl
  exact Bun.ok (k := 5) (N := N_opposite) (ps := ["direction"]) (S := S_opposite) F sc_opposite (fun _ _ _ _ _ _ us hl => match us, hl with | [_], _ => rfl) fun da me cdv A outer s H E i => (show DSs (B.G da me) (B.X N_opposite dd_opposite.qual dd_opposite.scope (He.fAd B.K ("opposite", none)) cdv A outer s H E) (defBody (top 16)) (S_opposite) from dss_cons (ds_ret (de_callT call_tuple_of bTup_ok rfl (Bun.free 51 rfl) (by decide +kernel) (dra_cons (DE.toR (de_lc rfl sc_opposite.nd (di_seq rfl (de_call (Bun.call (ok_least B) i (by decide) (Bun.glo 9 rfl)) rfl (da_cons (de_var (pv 0)) (da_nil) rfl) rfl rfl rfl)) (blkOk_by (own := [("one", 1)]) rfl) (fun _ _ _ _ _ => dg_name (pg_name sc_opposite.nd rfl (by first | exact Or.inl rfl | exact Or.inr rfl) (by first | exact .inl rfl | exact .inr rfl))) (fun _ _ _ _ _ => dts_nil) (fun _ _ _ _ _ => de_neg (de_var (pv 1))) (by decide) (fun _ => rfl) rfl)) (dra_nil) rfl) (by decide) rfl rfl rfl)) (dss_nil))
def N_dot : List Str := ["one", "other", "left", "right"]
theorem sc_dot : FnScope N_dot ["one", "other"] (defScope (top 17)) := ⟨rfl, rfl, rfl, by decide +kernel, rfl, by decide +kernel, by decide +kernel⟩
def S_dot : SemS := sSeq (sRet (dBi bSum (dCons (dLc [2, 3] (dZip (dCons (dV 0) (dCons (dV 1) (dNil)))) (tgTup 2 (tgsCons (tgName 2) (tgsCons (tgName 3) (tgsNil)))) (dTrue) (dBin D.mul (dV 2) (dV 3))) (dNil)))) (sNext)
def F_dot : Fn := runB 4 (S_dot)
theorem ok_dot (B : Bn) : B.Ok ("dot", none) 1 2 (F_dot) := by
  obtain ⟨fd, F⟩ := B.say.def_ (d := dd_dot) 11 rfl
  exact Bun.ok (k := 0) (N := N_dot) (ps := ["one", "other"]) (S := S_dot) F sc_dot (fun _ _ _ _ _ _ us hl => match us, hl with | [_, _], _ => rfl) fun da me cdv A outer s H E i => (show DSs (B.G da me) (B.X N_dot dd_dot.qual dd_dot.scope (He.fAd B.K ("dot", none)) cdv A outer s H E) (defBody (top 17)) (S_dot) from dss_cons (ds_ret (de_callB (cr_sum rfl) bSum_ok rfl (Bun.free 47 rfl) (by decide +kernel) (dra_cons (DE.toR (de_lc rfl sc_dot.nd (di_zip rfl rfl (Bun.free 48 rfl) (da_cons (de_var (pv 0)) (da_cons (de_var (pv 1)) (da_nil) rfl) rfl) (fun h => RZ.pi_zipA rfl (Bun.free 48 rfl) h)) (blkOk_by (own := [("left", 2), ("right", 3)]) rfl) (fun _ _ _ _ _ => dg_tup rfl rfl (dgs_cons (dg_name (pg_name sc_dot.nd rfl (by first | exact Or.inl rfl | exact Or.inr rfl) (by first | exact .inl rfl | exact .inr rfl))) (dgs_cons (dg_name (pg_name sc_dot.nd rfl (by first | exact Or.inl rfl | exact Or.inr rfl) (by first | exact .inl rfl | exact .inr rfl))) (dgs_nil) rfl) rfl) rfl rfl) (fun _ _ _ _ _ => dts_nil) (fun _ _ _ _ _ => de_op op_mulX rd_mul (DE.toR (de_var (pv 2))) (DE.toR (de_var (pv 3)))) (by decide) (fun _ => rfl) rfl)) (dra_nil) rfl) (by decide) rfl rfl rfl)) (dss_nil))
def N_cross : List Str := ["one", "other"]
theorem sc_cross : FnScope N_cross ["one", "other"] (defScope (top 18)) := ⟨rfl, rfl, rfl, by decide +kernel, rfl, by decide +kernel, by decide +kernel⟩
def S_cross : SemS := sSeq (sRet (dTup (dCons (dBin D.sub (dBin D.mul (dBin D.ix (dV 0) (dC (.int 1))) (dBin D.ix (dV 1) (dC (.int 2)))) (dBin D.mul (dBin D.ix (dV 0) (dC (.int 2))) (dBin D.ix (dV 1) (dC (.int 1))))) (dCons (dBin D.sub (dBin D.mul (dBin D.ix (dV 0) (dC (.int 2))) (dBin D.ix (dV 1) (dC (.int 0)))) (dBin D.mul (dBin D.ix (dV 0) (dC (.int 0))) (dBin D.ix (dV 1) (dC (.int 2))))) (dCons (dBin D.sub (dBin D.mul (dBin D.ix (dV 0) (dC (.int 0))) (dBin D.ix (dV 1) (dC (.int 1)))) (dBin D.mul (dBin D.ix (dV 0) (dC (.int 1))) (dBin D.ix (dV 1) (dC (.int 0))))) (dNil)))))) (sNext)
def F_cross : Fn := runB 2 (S_cross)
theorem ok_cross (B : Bn) : B.Ok ("cross", none) 1 2 (F_cross) := by
  obtain ⟨fd, F⟩ := B.say.def_ (d := dd_cross) 12 rfl
  exact Bun.ok (k := 0) (N := N_cross) (ps := ["one", "other"]) (S := S_cross) F sc_cross (fun _ _ _ _ _ _ us hl => match us, hl with | [_, _], _ => rfl) fun da me cdv A outer s H E i => (show DSs (B.G da me) (B.X N_cross dd_cross.qual dd_cross.scope (He.fAd B.K ("cross", none)) cdv A outer s H E) (defBody (top 18)) (S_cross) from dss_cons (ds_ret (de_tup (da_cons (de_op op_sub rd_sub (DE.toR (de_op op_mulX rd_mul (DE.toR (de_ix rfl (DE.toR (de_var (pv 0))) (DE.toR (de_const pe_int (fun _ => Rep.int _))) (fun _ _ => rfl))) (DE.toR (de_ix rfl (DE.toR (de_var (pv 1))) (DE.toR (de_const pe_int (fun _ => Rep.int _))) (fun _ _ => rfl))))) (DE.toR (de_op op_mulX rd_mul (DE.toR (de_ix rfl (DE.toR (de_var (pv 0))) (DE.toR (de_const pe_int (fun _ => Rep.int _))) (fun _ _ => rfl))) (DE.toR (de_ix rfl (DE.toR (de_var (pv 1))) (DE.toR (de_const pe_int (fun _ => Rep.int _))) (fun _ _ => rfl)))))) (da_cons (de_op op_sub rd_sub (DE.toR (de_op op_mulX rd_mul (DE.toR (de_ix rfl (DE.toR (de_var (pv 0))) (DE.toR (de_const pe_int (fun _ => Rep.int _))) (fun _ _ => rfl))) (DE.toR (de_ix rfl (DE.toR (de_var (pv 1))) (DE.toR (de_const pe_int (fun _ => Rep.int _))) (fun _ _ => rfl))))) (DE.toR (de_op op_mulX rd_mul (DE.toR (de_ix rfl (DE.toR (de_var (pv 0))) (DE.toR (de_const pe_int (fun _ => Rep.int _))) (fun _ _ => rfl))) (DE.toR (de_ix rfl (DE.toR (de_var (pv 1))) (DE.toR (de_const pe_int (fun _ => Rep.int _))) (fun _ _ => rfl)))))) (da_cons (de_op op_sub rd_sub (DE.toR (de_op op_mulX rd_mul (DE.toR (de_ix rfl (DE.toR (de_var (pv 0))) (DE.toR (de_const pe_int (fun _ => Rep.int _))) (fun _ _ => rfl))) (DE.toR (de_ix rfl (DE.toR (de_var (pv 1))) (DE.toR (de_const pe_int (fun _ => Rep.int _))) (fun _ _ => rfl))))) (DE.toR (de_op op_mulX rd_mul (DE.toR (de_ix rfl (DE.toR (de_var (pv 0))) (DE.toR (de_const pe_int (fun _ => Rep.int _))) (fun _ _ => rfl))) (DE.toR (de_ix rfl (DE.toR (de_var (pv 1))) (DE.toR (de_const pe_int (fun _ => Rep.int _))) (fun _ _ => rfl)))))) (da_nil) rfl) rfl) rfl))) (dss_nil))
def N_det : List Str := ["one", "other", "third"]
theorem sc_det : FnScope N_det ["one", "other", "third"] (defScope (top 19)) := ⟨rfl, rfl, rfl, by decide +kernel, rfl, by decide +kernel, by decide +kernel⟩
def S_det : SemS := sSeq (sRet (dCall 2 F_dot (dCons (dCall 2 F_cross (dCons (dV 0) (dCons (dV 1) (dNil)))) (dCons (dV 2) (dNil))))) (sNext)
def F_det : Fn := runB 3 (S_det)
theorem ok_det (B : Bn) : B.Ok ("det", none) 2 3 (F_det) := by
  obtain ⟨fd, F⟩ := B.say.def_ (d := dd_det) 13 rfl
  exact Bun.ok (k := 1) (N := N_det) (ps := ["one", "other", "third"]) (S := S_det) F sc_det (fun _ _ _ _ _ _ us hl => match us, hl with | [_, _, _], _ => rfl) fun da me cdv A outer s H E i => (show DSs (B.G da me) (B.X N_det dd_det.qual dd_det.scope (He.fAd B.K ("det", none)) cdv A outer s H E) (defBody (top 19)) (S_det) from dss_cons (ds_ret (de_call (Bun.call (ok_dot B) i (by decide) (Bun.glo 11 rfl)) rfl (da_cons (de_call (Bun.call (ok_cross B) i (by decide) (Bun.glo 12 rfl)) rfl (da_cons (de_var (pv 0)) (da_cons (de_var (pv 1)) (da_nil) rfl) rfl) rfl rfl rfl) (da_cons (de_var (pv 2)) (da_nil) rfl) rfl) rfl rfl rfl)) (dss_nil))
def N_times : List Str := ["factor", "triple", "one"]
theorem sc_times : FnScope N_times ["factor", "triple"] (defScope (top 20)) := ⟨rfl, rfl, rfl, by decide +kernel, rfl, by decide +kernel, by decide +kernel⟩
def S_times : SemS := sSeq (sRet (dBi bTup (dCons (dLc [2] (dItems (dV 1)) (tgName 2) (dTrue) (dBin D.mul (dV 0) (dV 2))) (dNil)))) (sNext)
def F_times : Fn := runB 3 (S_times)
theorem ok_times (B : Bn) : B.Ok ("times", none) 1 2 (F_times) := by
  obtain ⟨fd, F⟩ := B.say.def_ (d := dd_times) 14 rfl
  exact Bun.ok (k := 0) (N := N_times) (ps := ["factor", "triple"]) (S := S_times) F sc_times (fun _ _ _ _ _ _ us hl => match us, hl with | [_, _], _ => rfl) fun da me cdv A outer s H E i => (show DSs (B.G da me) (B.X N_times dd_times.qual dd_times.scope (He.fAd B.K ("times", none)) cdv A outer s H E) (defBody (top 20)) (S_times) from dss_cons (ds_ret (de_callT call_tuple_of bTup_ok rfl (Bun.free 51 rfl) (by decide +kernel) (dra_cons (DE.toR (de_lc rfl sc_times.nd (di_seq rfl (de_var (pv 1))) (blkOk_by (own := [("one", 2)]) rfl) (fun _ _ _ _ _ => dg_name (pg_name sc_times.nd rfl (by first | exact Or.inl rfl | exact Or.inr rfl) (by first | exact .inl rfl | exact .inr rfl))) (fun _ _ _ _ _ => dts_nil) (fun _ _ _ _ _ => de_op op_mulX rd_mul (DE.toR (de_var (pv 0))) (DE.toR (de_var (pv 2)))) (by decide) (fun _ => rfl) rfl)) (dra_nil) rfl) (by decide) rfl rfl rfl)) (dss_nil))
def N_is_on_line : List Str := ["one", "other"]
theorem sc_is_on_line : FnScope N_is_on_line ["one", "other"] (defScope (top 21)) := ⟨rfl, rfl, rfl, by decide +kernel, rfl, by decide +kernel, by decide +kernel⟩
def S_is_on_line : SemS := sSeq (sRet (dEq eqT false (dCall 2 F_cross (dCons (dV 0) (dCons (dV 1) (dNil)))) (dTup (dCons (dC (.int 0)) (dCons (dC (.int 0)) (dCons (dC (.int 0)) (dNil))))))) (sNext)
def F_is_on_line : Fn := runB 2 (S_is_on_line)
theorem ok_is_on_line (B : Bn) : B.Ok ("is_on_line", none) 3 2 (F_is_on_line) := by
  obtain ⟨fd, F⟩ := B.say.def_ (d := dd_is_on_line) 15 rfl
  exact Bun.ok (k := 2) (N := N_is_on_line) (ps := ["one", "other"]) (S := S_is_on_line) F sc_is_on_line (fun _ _ _ _ _ _ us hl => match us, hl with | [_, _], _ => rfl) fun da me cdv A outer s H E i => (show DSs (B.G da me) (B.X N_is_on_line dd_is_on_line.qual dd_is_on_line.scope (He.fAd B.K ("is_on_line", none)) cdv A outer s H E) (defBody (top 21)) (S_is_on_line) from dss_cons (ds_ret (de_eq rfl Bun.kit (Bun.eqOk (eqRow B (by decide)) i) i.room.units (DE.toR (de_call (Bun.call (ok_cross B) i (by decide) (Bun.glo 12 rfl)) rfl (da_cons (de_var (pv 0)) (da_cons (de_var (pv 1)) (da_nil) rfl) rfl) rfl rfl rfl)) (de_tup (da_cons (de_const pe_int (fun _ => Rep.int _)) (da_cons (de_const pe_int (fun _ => Rep.int _)) (da_cons (de_const pe_int (fun _ => Rep.int _)) (da_nil) rfl) rfl) rfl)) rfl)) (dss_nil))
def N_root : List Str := ["number", "low", "high", "middle"]
theorem sc_root : FnScope N_root ["number"] (defScope (top 22)) := ⟨rfl, rfl, rfl, by decide +kernel, rfl, by decide +kernel, by decide +kernel⟩
def S_root : SemS := sSeq (sAsg (dTup (dCons (dC (.int 0)) (dCons (dC (.int 1)) (dNil)))) (tgTup 2 (tgsCons (tgName 1) (tgsCons (tgName 2) (tgsNil))))) (sSeq (sWh (fuelN 4000) (dBinB cLe (dBin D.mul (dV 2) (dV 2)) (dV 0)) (sSeq (sAug 2 D.mul (dC (.int 2))) (sNext))) (sSeq (sWh (fuelN 4000) (dBinB cLt (dV 1) (dV 2)) (sSeq (sAsg (dBin D.fdiv (dBin D.add (dV 1) (dV 2)) (dC (.int 2))) (tgName 3)) (sSeq (sIf (dBinB cLt (dBin D.mul (dV 3) (dV 3)) (dV 0)) (sSeq (sAsg (dBin D.add (dV 3) (dC (.int 1))) (tgName 1)) (sNext)) (sSeq (sAsg (dV 3) (tgName 2)) (sNext))) (sNext)))) (sSeq (sRet (dIf (dEqB eqT false (dBin D.mul (dV 1) (dV 1)) (dV 0)) (dV 1) (dC .non))) (sNext))))
def F_root : Fn := runB 4 (S_root)
theorem ok_root (B : Bn) : B.Ok ("root", none) 3 1 (F_root) := by
  obtain ⟨fd, F⟩ := B.say.def_ (d := dd_root) 16 rfl
  exact Bun.ok (k := 2) (N := N_root) (ps := ["number"]) (S := S_root) F sc_root (fun _ _ _ _ _ _ us hl => match us, hl with | [_], _ => rfl) fun da me cdv A outer s H E i => (show DSs (B.G da me) (B.X N_root dd_root.qual dd_root.scope (He.fAd B.K ("root", none)) cdv A outer s H E) (defBody (top 22)) (S_root) from dss_cons (ds_asg (de_tup (da_cons (de_const pe_int (fun _ => Rep.int _)) (da_cons (de_const pe_int (fun _ => Rep.int _)) (da_nil) rfl) rfl)) (dg_tup rfl rfl (dgs_cons (dg_name (pg_name sc_root.nd rfl (by first | exact Or.inl rfl | exact Or.inr rfl) (by first | exact .inl rfl | exact .inr rfl))) (dgs_cons (dg_name (pg_name sc_root.nd rfl (by first | exact Or.inl rfl | exact Or.inr rfl) (by first | exact .inl rfl | exact .inr rfl))) (dgs_nil) rfl) rfl) rfl rfl) rfl rfl rfl) (dss_cons (ds_wh (fuelN 4000) PassesOwn.never (dc_test op_le rd_le (DE.toR (de_op op_mulX rd_mul (DE.toR (de_var (pv 2))) (DE.toR (de_var (pv 2))))) (DE.toR (de_var (pv 0))) rfl) (dss_cons (ds_aug (i := 2) sc_root.nd rfl (by first | exact Or.inl rfl | exact Or.inr rfl) (by first | exact Or.inl rfl | exact Or.inr rfl) (de_const pe_int (fun _ => Rep.int _)) iop_mulX rd_mul) (dss_nil))) (dss_cons (ds_wh (fuelN 4000) PassesOwn.never (dc_test op_lt rd_lt (DE.toR (de_var (pv 1))) (DE.toR (de_var (pv 2))) rfl) (dss_cons (ds_asg (de_op op_fdivW rd_fdiv (DE.toR (de_op op_addD rd_add (DE.toR (de_var (pv 1))) (DE.toR (de_var (pv 2))))) (DE.toR (de_const pe_int (fun _ => Rep.int _)))) (dg_name (pg_name sc_root.nd rfl (by first | exact Or.inl rfl | exact Or.inr rfl) (by first | exact .inl rfl | exact .inr rfl))) rfl rfl rfl) (dss_cons (ds_if (dc_test op_lt rd_lt (DE.toR (de_op op_mulX rd_mul (DE.toR (de_var (pv 3))) (DE.toR (de_var (pv 3))))) (DE.toR (de_var (pv 0))) rfl) (dss_cons (ds_asg (de_op op_addD rd_add (DE.toR (de_var (pv 3))) (DE.toR (de_const pe_int (fun _ => Rep.int _)))) (dg_name (pg_name sc_root.nd rfl (by first | exact Or.inl rfl | exact Or.inr rfl) (by first | exact .inl rfl | exact .inr rfl))) rfl rfl rfl) (dss_nil)) (dss_cons (ds_asg (de_var (pv 3)) (dg_name (pg_name sc_root.nd rfl (by first | exact Or.inl rfl | exact Or.inr rfl) (by first | exact .inl rfl | exact .inr rfl))) rfl rfl rfl) (dss_nil))) (dss_nil)))) (dss_cons (ds_ret (de_if (dt_eq rfl Bun.kit (Bun.eqOk (eqRow B (by decide)) i) i.room.units (DE.toR (de_op op_mulX rd_mul (DE.toR (de_var (pv 1))) (DE.toR (de_var (pv 1))))) (de_var (pv 0)) rfl) (de_var (pv 1)) (de_const pe_non (fun _ => Rep.non)))) (dss_nil)))))
def N_ratio : List Str := ["one", "other", "found"]
theorem sc_ratio : FnScope N_ratio ["one", "other"] (defScope (top 23)) := ⟨rfl, rfl, rfl, by decide +kernel, rfl, by decide +kernel, by decide +kernel⟩
def S_ratio : SemS := sSeq (sDrop (dCall 2 F_check_triple (dCons (dC (.str "direction")) (dCons (dV 0) (dNil))))) (sSeq (sDrop (dCall 2 F_check_triple (dCons (dC (.str "direction")) (dCons (dV 1) (dNil))))) (sSeq (sAsg (dCall 1 F_root (dCons (dBin D.mul (dCall 2 F_dot (dCons (dV 0) (dCons (dV 0) (dNil)))) (dCall 2 F_dot (dCons (dV 1) (dCons (dV 1) (dNil))))) (dNil))) (tgName 2)) (sSeq (sRet (dIf (dBinB cIs (dV 2) (dC .non)) (dC .non) (dCall 2 F_lowest (dCons (dV 2) (dCons (dCall 2 F_dot (dCons (dV 1) (dCons (dV 1) (dNil)))) (dNil)))))) (sNext))))
def F_ratio : Fn := runB 3 (S_ratio)
theorem ok_ratio (B : Bn) : B.Ok ("ratio", none) 5 2 (F_ratio) := by
  obtain ⟨fd, F⟩ := B.say.def_ (d := dd_ratio) 17 rfl
  exact Bun.ok (k := 4) (N := N_ratio) (ps := ["one", "other"]) (S := S_ratio) F sc_ratio (fun _ _ _ _ _ _ us hl => match us, hl with | [_, _], _ => rfl) fun da me cdv A outer s H E i => (show DSs (B.G da me) (B.X N_ratio dd_ratio.qual dd_ratio.scope (He.fAd B.K ("ratio", none)) cdv A outer s H E) (defBody (top 23)) (S_ratio) from dss_cons (ds_expr (de_call (Bun.call (ok_check_triple B) i (by decide) (Bun.glo 8 rfl)) rfl (da_cons (de_const pe_str (fun _ => Rep.str _)) (da_cons (de_var (pv 0)) (da_nil) rfl) rfl) rfl rfl rfl) rfl) (dss_cons (ds_expr (de_call (Bun.call (ok_check_triple B) i (by decide) (Bun.glo 8 rfl)) rfl (da_cons (de_const pe_str (fun _ => Rep.str _)) (da_cons (de_var (pv 1)) (da_nil) rfl) rfl) rfl rfl rfl) rfl) (dss_cons (ds_asg (de_call (Bun.call (ok_root B) i (by decide) (Bun.glo 16 rfl)) rfl (da_cons (de_op op_mulX rd_mul (DE.toR (de_call (Bun.call (ok_dot B) i (by decide) (Bun.glo 11 rfl)) rfl (da_cons (de_var (pv 0)) (da_cons (de_var (pv 0)) (da_nil) rfl) rfl) rfl rfl rfl)) (DE.toR (de_call (Bun.call (ok_dot B) i (by decide) (Bun.glo 11 rfl)) rfl (da_cons (de_var (pv 1)) (da_cons (de_var (pv 1)) (da_nil) rfl) rfl) rfl rfl rfl))) (da_nil) rfl) rfl rfl rfl) (dg_name (pg_name sc_ratio.nd rfl (by first | exact Or.inl rfl | exact Or.inr rfl) (by first | exact .inl rfl | exact .inr rfl))) rfl rfl rfl) (dss_cons (ds_ret (de_if (dc_test op_isD rd_is (DE.toR (de_var (pv 2))) (DE.toR (de_const pe_non (fun _ => Rep.non))) rfl) (de_const pe_non (fun _ => Rep.non)) (de_call (Bun.call (ok_lowest B) i (by decide) (Bun.glo 5 rfl)) rfl (da_cons (de_var (pv 2)) (da_cons (de_call (Bun.call (ok_dot B) i (by decide) (Bun.glo 11 rfl)) rfl (da_cons (de_var (pv 1)) (da_cons (de_var (pv 1)) (da_nil) rfl) rfl) rfl rfl rfl) (da_nil) rfl) rfl) rfl rfl rfl))) (dss_nil)))))
def N_size_of : List Str := ["one", "other"]
theorem sc_size_of : FnScope N_size_of ["one", "other"] (defScope (top 25)) := ⟨rfl, rfl, rfl, by decide +kernel, rfl, by decide +kernel, by decide +kernel⟩
def S_size_of : SemS := sSeq (sRet (dBin D.mul (dCall 2 F_dot (dCons (dV 0) (dCons (dV 0) (dNil)))) (dCall 2 F_dot (dCons (dV 1) (dCons (dV 1) (dNil)))))) (sNext)
def F_size_of : Fn := runB 2 (S_size_of)
theorem ok_size_of (B : Bn) : B.Ok ("size_of", none) 2 2 (F_size_of) := by
  obtain ⟨fd, F⟩ := B.say.def_ (d := dd_size_of) 19 rfl
  exact Bun.ok (k := 1) (N := N_size_of) (ps := ["one", "other"]) (S := S_size_of) F sc_size_of (fun _ _ _ _ _ _ us hl => match us, hl with | [_, _], _ => rfl) fun da me cdv A outer s H E i => (show DSs (B.G da me) (B.X N_size_of dd_size_of.qual dd_size_of.scope (He.fAd B.K ("size_of", none)) cdv A outer s H E) (defBody (top 25)) (S_size_of) from dss_cons (ds_ret (de_op op_mulX rd_mul (DE.toR (de_call (Bun.call (ok_dot B) i (by decide) (Bun.glo 11 rfl)) rfl (da_cons (de_var (pv 0)) (da_cons (de_var (pv 0)) (da_nil) rfl) rfl) rfl rfl rfl)) (DE.toR (de_call (Bun.call (ok_dot B) i (by decide) (Bun.glo 11 rfl)) rfl (da_cons (de_var (pv 1)) (da_cons (de_var (pv 1)) (da_nil) rfl) rfl) rfl rfl rfl)))) (dss_nil))
def N_Turn___init__ : List Str := ["self", "rows", "below", "place", "row", "one", "other", "divisor", "number"]
theorem sc_Turn___init__ : FnScope N_Turn___init__ ["self", "rows", "below"] (defScope (inClass (top 27) 0)) := ⟨rfl, rfl, rfl, by decide +kernel, rfl, by decide +kernel, by decide +kernel⟩
def S_Turn___init__ : SemS := sSeq (sIf (dOrB (dNotB (dTru (dCall 1 F_is_row (dCons (dV 1) (dNil))))) (dEqB eqT true (dBi bLen (dCons (dV 1) (dNil))) (dC (.int 3)))) (sFail) (sNext)) (sSeq (sFor (dEnumA (dV 1)) (tgTup 2 (tgsCons (tgName 3) (tgsCons (tgName 4) (tgsNil)))) (sSeq (sIf (dOrB (dNotB (dTru (dCall 1 F_is_row (dCons (dV 4) (dNil))))) (dOrB (dEqB eqT true (dBi bLen (dCons (dV 4) (dNil))) (dC (.int 3))) (dNotB (dTru (dBi bAll (dCons (dLc [5] (dItems (dV 4)) (tgName 5) (dTrue) (dCall 1 F_is_integer (dCons (dV 5) (dNil)))) (dNil))))))) (sFail) (sNext)) (sNext))) (sSeq (sIf (dOrB (dNotB (dTru (dCall 1 F_is_integer (dCons (dV 2) (dNil))))) (dBinB cLt (dV 2) (dC (.int 1)))) (sFail) (sNext)) (sSeq (sFor (dRng (dCons (dC (.int 3)) dNil)) (tgName 5) (sSeq (sFor (dRng (dCons (dC (.int 3)) dNil)) (tgName 6) (sSeq (sIf (dEqB eqT true (dCall 2 F_dot (dCons (dBin D.ix (dV 1) (dV 5)) (dCons (dBin D.ix (dV 1) (dV 6)) (dNil)))) (dIf (dEqB eqT false (dV 5) (dV 6)) (dBin D.mul (dV 2) (dV 2)) (dC (.int 0)))) (sFail) (sNext)) (sNext))) (sNext))) (sSeq (sAsg (dV 2) (tgName 7)) (sSeq (sFor (dItems (dV 1)) (tgName 4) (sSeq (sFor (dItems (dV 4)) (tgName 8) (sSeq (sAsg (dCall 2 F_common (dCons (dV 7) (dCons (dV 8) (dNil)))) (tgName 7)) (sNext))) (sNext))) (sSeq (sMe 0 "rows" (dBi bTup (dCons (dLc [4] (dItems (dV 1)) (tgName 4) (dTrue) (dBi bTup (dCons (dLc [8] (dItems (dV 4)) (tgName 8) (dTrue) (dBin D.fdiv (dV 8) (dV 7))) (dNil)))) (dNil)))) (sSeq (sMe 0 "below" (dBin D.fdiv (dV 2) (dV 7))) (sNext))))))))
def FI_Turn : FnI := runI 9 .Turn S_Turn___init__
theorem ok_Turn___init__ (B : Bn) : B.OkI .Turn 3 2 FI_Turn := by
  obtain ⟨fd, F⟩ := B.say.def_ (d := dd_Turn___init__) 20 rfl
  exact Bun.okI (c := .Turn) (k := 2) (N := N_Turn___init__) (ps := ["self", "rows", "below"]) (S := S_Turn___init__) F sc_Turn___init__ rfl (fun _ _ _ _ _ _ us hl => match us, hl with | [_, _, _], _ => rfl) fun da me cdv A outer s H E i => (show DSs (B.G da me) (B.X N_Turn___init__ dd_Turn___init__.qual dd_Turn___init__.scope (He.fAd B.K ("Turn", some "__init__")) cdv A outer s H E) (defBody (inClass (top 27) 0)) S_Turn___init__ from dss_cons (ds_if (PW.pt (dw_or (dt_not (dt_tru rfl (DE.toR (de_call (Bun.call (ok_is_row B) i (by decide) (Bun.glo 3 rfl)) rfl (da_cons (de_var (pv 1)) (da_nil) rfl) rfl rfl rfl)) (fun _ => rfl))) (dw_or1 (dt_ne rfl Bun.kit (Bun.eqOk (eqRow B (by decide)) i) i.room.units (DE.toR (de_callB call_len bLen_ok rfl (Bun.free 44 rfl) (by decide +kernel) (dra_cons (DE.toR (de_var (pv 1))) (dra_nil) rfl) (by decide) rfl rfl rfl)) (de_const pe_int (fun _ => Rep.int _)) rfl)))) (dss_fail) (dss_nil)) (dss_cons (ds_for PassesOwn.never rfl (di_enumA rfl rfl (Bun.free 49 rfl) (de_var (pv 1)) rfl) (dg_tup rfl rfl (dgs_cons (dg_name (pg_name sc_Turn___init__.nd rfl (by first | exact Or.inl rfl | exact Or.inr rfl) (by first | exact .inl rfl | exact .inr rfl))) (dgs_cons (dg_name (pg_name sc_Turn___init__.nd rfl (by first | exact Or.inl rfl | exact Or.inr rfl) (by first | exact .inl rfl | exact .inr rfl))) (dgs_nil) rfl) rfl) rfl rfl) (dss_cons (ds_if (PW.pt (dw_or (dt_not (dt_tru rfl (DE.toR (de_call (Bun.call (ok_is_row B) i (by decide) (Bun.glo 3 rfl)) rfl (da_cons (de_var (pv 4)) (da_nil) rfl) rfl rfl rfl)) (fun _ => rfl))) (dw_or (dt_ne rfl Bun.kit (Bun.eqOk (eqRow B (by decide)) i) i.room.units (DE.toR (de_callB call_len bLen_ok rfl (Bun.free 44 rfl) (by decide +kernel) (dra_cons (DE.toR (de_var (pv 4))) (dra_nil) rfl) (by decide) rfl rfl rfl)) (de_const pe_int (fun _ => Rep.int _)) rfl) (dw_or1 (dt_not (dt_tru rfl (DE.toR (de_callB (cr_all rfl) bAll_ok rfl (Bun.free 45 rfl) (by decide +kernel) (dra_cons (DE.toR (de_lc rfl sc_Turn___init__.nd (di_seq rfl (de_var (pv 4))) (blkOk_by (own := [("one", 5)]) rfl) (fun _ _ _ _ _ => dg_name (pg_name sc_Turn___init__.nd rfl (by first | exact Or.inl rfl | exact Or.inr rfl) (by first | exact .inl rfl | exact .inr rfl))) (fun _ _ _ _ _ => dts_nil) (fun _ _ _ _ _ => de_call (Bun.call (ok_is_integer B) i.blk (by decide) (Bun.glo 0 rfl)) rfl (da_cons (de_var (pv 5)) (da_nil) rfl) rfl rfl rfl) (by decide) (fun _ => rfl) rfl)) (dra_nil) rfl) (by decide) rfl rfl rfl)) (fun _ => rfl))))))) (dss_fail) (dss_nil)) (dss_nil)) (fun _ => rfl)) (dss_cons (ds_if (PW.pt (dw_or (dt_not (dt_tru rfl (DE.toR (de_call (Bun.call (ok_is_integer B) i (by decide) (Bun.glo 0 rfl)) rfl (da_cons (de_var (pv 2)) (da_nil) rfl) rfl rfl rfl)) (fun _ => rfl))) (dw_or1 (dc_test op_lt rd_lt (DE.toR (de_var (pv 2))) (DE.toR (de_const pe_int (fun _ => Rep.int _))) rfl)))) (dss_fail) (dss_nil)) (dss_cons (ds_for PassesOwn.never rfl (di_range1 rfl (Bun.free 50 rfl) (de_const pe_int (fun _ => Rep.int _)) rfl) (dg_name (pg_name sc_Turn___init__.nd rfl (by first | exact Or.inl rfl | exact Or.inr rfl) (by first | exact .inl rfl | exact .inr rfl))) (dss_cons (ds_for PassesOwn.never rfl (di_range1 rfl (Bun.free 50 rfl) (de_const pe_int (fun _ => Rep.int _)) rfl) (dg_name (pg_name sc_Turn___init__.nd rfl (by first | exact Or.inl rfl | exact Or.inr rfl) (by first | exact .inl rfl | exact .inr rfl))) (dss_cons (ds_if (dt_ne rfl Bun.kit (Bun.eqOk (eqRow B (by decide)) i) i.room.units (DE.toR (de_call (Bun.call (ok_dot B) i (by decide) (Bun.glo 11 rfl)) rfl (da_cons (de_ix rfl (DE.toR (de_var (pv 1))) (DE.toR (de_var (pv 5))) (fun _ _ => rfl)) (da_cons (de_ix rfl (DE.toR (de_var (pv 1))) (DE.toR (de_var (pv 6))) (fun _ _ => rfl)) (da_nil) rfl) rfl) rfl rfl rfl)) (de_if (dt_eq rfl Bun.kit (Bun.eqOk (eqRow B (by decide)) i) i.room.units (DE.toR (de_var (pv 5))) (de_var (pv 6)) rfl) (de_op op_mulX rd_mul (DE.toR (de_var (pv 2))) (DE.toR (de_var (pv 2)))) (de_const pe_int (fun _ => Rep.int _))) rfl) (dss_fail) (dss_nil)) (dss_nil)) (fun _ => rfl)) (dss_nil)) (fun _ => rfl)) (dss_cons (ds_asg (de_var (pv 2)) (dg_name (pg_name sc_Turn___init__.nd rfl (by first | exact Or.inl rfl | exact Or.inr rfl) (by first | exact .inl rfl | exact .inr rfl))) rfl rfl rfl) (dss_cons (ds_for PassesOwn.never rfl (di_seq rfl (de_var (pv 1))) (dg_name (pg_name sc_Turn___init__.nd rfl (by first | exact Or.inl rfl | exact Or.inr rfl) (by first | exact .inl rfl | exact .inr rfl))) (dss_cons (ds_for PassesOwn.never rfl (di_seq rfl (de_var (pv 4))) (dg_name (pg_name sc_Turn___init__.nd rfl (by first | exact Or.inl rfl | exact Or.inr rfl) (by first | exact .inl rfl | exact .inr rfl))) (dss_cons (ds_asg (de_call (Bun.call (ok_common B) i (by decide) (Bun.glo 4 rfl)) rfl (da_cons (de_var (pv 7)) (da_cons (de_var (pv 8)) (da_nil) rfl) rfl) rfl rfl rfl) (dg_name (pg_name sc_Turn___init__.nd rfl (by first | exact Or.inl rfl | exact Or.inr rfl) (by first | exact .inl rfl | exact .inr rfl))) rfl rfl rfl) (dss_nil)) (fun _ => rfl)) (dss_nil)) (fun _ => rfl)) (dss_cons (ds_me rfl (Bun.kit.cls) (pv 0) (de_callT call_tuple_of bTup_ok rfl (Bun.free 51 rfl) (by decide +kernel) (dra_cons (DE.toR (de_lc rfl sc_Turn___init__.nd (di_seq rfl (de_var (pv 1))) (blkOk_by (own := [("row", 4)]) rfl) (fun _ _ _ _ _ => dg_name (pg_name sc_Turn___init__.nd rfl (by first | exact Or.inl rfl | exact Or.inr rfl) (by first | exact .inl rfl | exact .inr rfl))) (fun _ _ _ _ _ => dts_nil) (fun _ _ _ _ _ => de_callT call_tuple_of bTup_ok rfl (Bun.free 51 rfl) (by decide +kernel) (dra_cons (DE.toR (de_lc rfl sc_Turn___init__.nd (di_seq rfl (de_var (pv 4))) (blkOk_by (own := [("number", 8)]) rfl) (fun _ _ _ _ _ => dg_name (pg_name sc_Turn___init__.nd rfl (by first | exact Or.inl rfl | exact Or.inr rfl) (by first | exact .inl rfl | exact .inr rfl))) (fun _ _ _ _ _ => dts_nil) (fun _ _ _ _ _ => de_op op_fdivW rd_fdiv (DE.toR (de_var (pv 8))) (DE.toR (de_var (pv 7)))) (by decide) (fun _ => rfl) rfl)) (dra_nil) rfl) (by decide) rfl rfl rfl) (by decide) (fun _ => rfl) rfl)) (dra_nil) rfl) (by decide) rfl rfl rfl) rfl) (dss_cons (ds_me rfl (Bun.kit.cls) (pv 0) (de_op op_fdivW rd_fdiv (DE.toR (de_var (pv 2))) (DE.toR (de_var (pv 7)))) rfl) (dss_nil)))))))))
def N_Turn_is_mirrored : List Str := ["self"]
theorem sc_Turn_is_mirrored : FnScope N_Turn_is_mirrored ["self"] (defScope (inClass (top 27) 2)) := ⟨rfl, rfl, rfl, by decide +kernel, rfl, by decide +kernel, by decide +kernel⟩
def S_Turn_is_mirrored : SemS := sSeq (sRet (dBin (fun x y => (cLt x y).map D.bl) (dCall 3 F_det (dCons (dBin D.ix (dFld "rows" (dV 0)) (dC (.int 0))) (dCons (dBin D.ix (dFld "rows" (dV 0)) (dC (.int 1))) (dCons (dBin D.ix (dFld "rows" (dV 0)) (dC (.int 2))) (dNil))))) (dC (.int 0)))) (sNext)
def F_Turn_is_mirrored : Fn := runB 1 (S_Turn_is_mirrored)
theorem ok_Turn_is_mirrored (B : Bn) : B.Ok ("Turn", some "is_mirrored") 3 1 (F_Turn_is_mirrored) := by
  obtain ⟨fd, F⟩ := B.say.def_ (d := dd_Turn_is_mirrored) 22 rfl
  exact Bun.ok (k := 2) (N := N_Turn_is_mirrored) (ps := ["self"]) (S := S_Turn_is_mirrored) F sc_Turn_is_mirrored (fun _ _ _ _ _ _ us hl => match us, hl with | [_], _ => rfl) fun da me cdv A outer s H E i => (show DSs (B.G da me) (B.X N_Turn_is_mirrored dd_Turn_is_mirrored.qual dd_Turn_is_mirrored.scope (He.fAd B.K ("Turn", some "is_mirrored")) cdv A outer s H E) (defBody (inClass (top 27) 2)) (S_Turn_is_mirrored) from dss_cons (ds_ret (dc_val op_lt rd_lt (DE.toR (de_call (Bun.call (ok_det B) i (by decide) (Bun.glo 13 rfl)) rfl (da_cons (de_ix rfl (DE.toR (de_fld rfl (Bun.kit.cls) (de_var (pv 0)) rfl)) (DE.toR (de_const pe_int (fun _ => Rep.int _))) (fun _ _ => rfl)) (da_cons (de_ix rfl (DE.toR (de_fld rfl (Bun.kit.cls) (de_var (pv 0)) rfl)) (DE.toR (de_const pe_int (fun _ => Rep.int _))) (fun _ _ => rfl)) (da_cons (de_ix rfl (DE.toR (de_fld rfl (Bun.kit.cls) (de_var (pv 0)) rfl)) (DE.toR (de_const pe_int (fun _ => Rep.int _))) (fun _ _ => rfl)) (da_nil) rfl) rfl) rfl) rfl rfl rfl)) (DE.toR (de_const pe_int (fun _ => Rep.int _))) rfl)) (dss_nil))
def mt_is_mirrored : Mt := fun c m => match c with
  | .Turn => if m = "is_mirrored" then some (0, F_Turn_is_mirrored) else none
  | _ => none
theorem mtOk_is_mirrored (B : Bn) {da : Option Addr} {me : Option (Addr × Addr × Addr)} {X : Cx} {k : Nat} (i : B.In X k) (hk : 3 ≤ k) : ∀ c n F, mt_is_mirrored c "is_mirrored" = some (n, F) → MethOk (B.G da me) X c "is_mirrored" n F := by
  intro c n F h
  cases c <;> first | (cases h; first | exact Bun.meth (ok_Turn_is_mirrored B) i (Nat.le_trans (by decide) hk) (by decide) (B.say.fact 61 rfl)) | (cases h)
def N_check_turn : List Str := ["turn"]
theorem sc_check_turn : FnScope N_check_turn ["turn"] (defScope (top 28)) := ⟨rfl, rfl, rfl, by decide +kernel, rfl, by decide +kernel, by decide +kernel⟩
def S_check_turn : SemS := sSeq (sIf (dNotB (dTru (dIsi (.own .Turn) (dV 0)))) (sFail) (sNext)) (sNext)
def F_check_turn : Fn := runB 1 (S_check_turn)
theorem ok_check_turn (B : Bn) : B.Ok ("check_turn", none) 1 1 (F_check_turn) := by
  obtain ⟨fd, F⟩ := B.say.def_ (d := dd_check_turn) 23 rfl
  exact Bun.ok (k := 0) (N := N_check_turn) (ps := ["turn"]) (S := S_check_turn) F sc_check_turn (fun _ _ _ _ _ _ us hl => match us, hl with | [_], _ => rfl) fun da me cdv A outer s H E i => (show DSs (B.G da me) (B.X N_check_turn dd_check_turn.qual dd_check_turn.scope (He.fAd B.K ("check_turn", none)) cdv A outer s H E) (defBody (top 28)) (S_check_turn) from dss_cons (ds_if (dt_not (dt_tru rfl (DE.toR (de_isi rfl Bun.kit rfl (Bun.free 43 rfl) (Bun.klv (B.say.fact 41 rfl)) (DE.toR (de_var (pv 0))) (pe_own rfl (Bun.glo 41 rfl)) rfl rfl rfl)) (fun _ => rfl))) (dss_fail) (dss_nil)) (dss_nil))
def N_no_turn : List Str := []
theorem sc_no_turn : FnScope N_no_turn [] (defScope (top 29)) := ⟨rfl, rfl, rfl, by decide +kernel, rfl, by decide +kernel, by decide +kernel⟩
def S_no_turn : SemS := sSeq (sRet (dMake .Turn 2 FI_Turn (dCons (dLst (dCons (dTup (dCons (dC (.int 1)) (dCons (dC (.int 0)) (dCons (dC (.int 0)) (dNil))))) (dCons (dTup (dCons (dC (.int 0)) (dCons (dC (.int 1)) (dCons (dC (.int 0)) (dNil))))) (dCons (dTup (dCons (dC (.int 0)) (dCons (dC (.int 0)) (dCons (dC (.int 1)) (dNil))))) (dNil))))) (dCons (dC (.int 1)) (dNil))))) (sNext)
def F_no_turn : Fn := runB 0 (S_no_turn)
theorem ok_no_turn (B : Bn) : B.Ok ("no_turn", none) 5 0 (F_no_turn) := by
  obtain ⟨fd, F⟩ := B.say.def_ (d := dd_no_turn) 24 rfl
  exact Bun.ok (k := 4) (N := N_no_turn) (ps := []) (S := S_no_turn) F sc_no_turn (fun _ _ _ _ _ _ us hl => match us, hl with | [], _ => rfl) fun da me cdv A outer s H E i => (show DSs (B.G da me) (B.X N_no_turn dd_no_turn.qual dd_no_turn.scope (He.fAd B.K ("no_turn", none)) cdv A outer s H E) (defBody (top 29)) (S_no_turn) from dss_cons (ds_ret (de_make (Bun.make (ok_Turn___init__ B) i (by decide) rfl (Bun.glo 41 rfl) (B.say.fact 59 rfl) (B.say.fact 41 rfl)) rfl (da_cons (de_lst (da_cons (de_tup (da_cons (de_const pe_int (fun _ => Rep.int _)) (da_cons (de_const pe_int (fun _ => Rep.int _)) (da_cons (de_const pe_int (fun _ => Rep.int _)) (da_nil) rfl) rfl) rfl)) (da_cons (de_tup (da_cons (de_const pe_int (fun _ => Rep.int _)) (da_cons (de_const pe_int (fun _ => Rep.int _)) (da_cons (de_const pe_int (fun _ => Rep.int _)) (da_nil) rfl) rfl) rfl)) (da_cons (de_tup (da_cons (de_const pe_int (fun _ => Rep.int _)) (da_cons (de_const pe_int (fun _ => Rep.int _)) (da_cons (de_const pe_int (fun _ => Rep.int _)) (da_nil) rfl) rfl) rfl)) (da_nil) rfl) rfl) rfl)) (da_cons (de_const pe_int (fun _ => Rep.int _)) (da_nil) rfl) rfl) rfl rfl rfl)) (dss_nil))
def N_mirror : List Str := []
theorem sc_mirror : FnScope N_mirror [] (defScope (top 30)) := ⟨rfl, rfl, rfl, by decide +kernel, rfl, by decide +kernel, by decide +kernel⟩
def S_mirror : SemS := sSeq (sRet (dMake .Turn 2 FI_Turn (dCons (dLst (dCons (dTup (dCons (dC (.int 1)) (dCons (dC (.int 0)) (dCons (dC (.int 0)) (dNil))))) (dCons (dTup (dCons (dC (.int 0)) (dCons (dC (.int 1)) (dCons (dC (.int 0)) (dNil))))) (dCons (dTup (dCons (dC (.int 0)) (dCons (dC (.int 0)) (dCons (dUn D.neg (dC (.int 1))) (dNil))))) (dNil))))) (dCons (dC (.int 1)) (dNil))))) (sNext)
def F_mirror : Fn := runB 0 (S_mirror)
theorem ok_mirror (B : Bn) : B.Ok ("mirror", none) 5 0 (F_mirror) := by
  obtain ⟨fd, F⟩ := B.say.def_ (d := dd_mirror) 25 rfl
  exact Bun.ok (k := 4) (N := N_mirror) (ps := []) (S := S_mirror) F sc_mirror (fun _ _ _ _ _ _ us hl => match us, hl with | [], _ => rfl) fun da me cdv A outer s H E i => (show DSs (B.G da me) (B.X N_mirror dd_mirror.qual dd_mirror.scope (He.fAd B.K ("mirror", none)) cdv A outer s H E) (defBody (top 30)) (S_mirror) from dss_cons (ds_ret (de_make (Bun.make (ok_Turn___init__ B) i (by decide) rfl (Bun.glo 41 rfl) (B.say.fact 59 rfl) (B.say.fact 41 rfl)) rfl (da_cons (de_lst (da_cons (de_tup (da_cons (de_const pe_int (fun _ => Rep.int _)) (da_cons (de_const pe_int (fun _ => Rep.int _)) (da_cons (de_const pe_int (fun _ => Rep.int _)) (da_nil) rfl) rfl) rfl)) (da_cons (de_tup (da_cons (de_const pe_int (fun _ => Rep.int _)) (da_cons (de_const pe_int (fun _ => Rep.int _)) (da_cons (de_const pe_int (fun _ => Rep.int _)) (da_nil) rfl) rfl) rfl)) (da_cons (de_tup (da_cons (de_const pe_int (fun _ => Rep.int _)) (da_cons (de_const pe_int (fun _ => Rep.int _)) (da_cons (de_neg (de_const pe_int (fun _ => Rep.int _))) (da_nil) rfl) rfl) rfl)) (da_nil) rfl) rfl) rfl)) (da_cons (de_const pe_int (fun _ => Rep.int _)) (da_nil) rfl) rfl) rfl rfl rfl)) (dss_nil))
def N_turn_by : List Str := ["numbers", "a", "b", "c", "d", "rows", "one"]
theorem sc_turn_by : FnScope N_turn_by ["numbers"] (defScope (top 31)) := ⟨rfl, rfl, rfl, by decide +kernel, rfl, by decide +kernel, by decide +kernel⟩
def S_turn_by : SemS := sSeq (sIf (dOrB (dNotB (dTru (dIsi .tuple (dV 0)))) (dOrB (dEqB eqT true (dBi bLen (dCons (dV 0) (dNil))) (dC (.int 4))) (dNotB (dTru (dBi bAll (dCons (dLc [6] (dItems (dV 0)) (tgName 6) (dTrue) (dCall 1 F_is_integer (dCons (dV 6) (dNil)))) (dNil))))))) (sFail) (sNext)) (sSeq (sIf (dEqB eqT false (dV 0) (dTup (dCons (dC (.int 0)) (dCons (dC (.int 0)) (dCons (dC (.int 0)) (dCons (dC (.int 0)) (dNil))))))) (sFail) (sNext)) (sSeq (sAsg (dV 0) (tgTup 4 (tgsCons (tgName 1) (tgsCons (tgName 2) (tgsCons (tgName 3) (tgsCons (tgName 4) (tgsNil))))))) (sSeq (sAsg (dLst (dCons (dTup (dCons (dBin D.sub (dBin D.sub (dBin D.add (dBin D.mul (dV 1) (dV 1)) (dBin D.mul (dV 2) (dV 2))) (dBin D.mul (dV 3) (dV 3))) (dBin D.mul (dV 4) (dV 4))) (dCons (dBin D.mul (dC (.int 2)) (dBin D.sub (dBin D.mul (dV 2) (dV 3)) (dBin D.mul (dV 1) (dV 4)))) (dCons (dBin D.mul (dC (.int 2)) (dBin D.add (dBin D.mul (dV 2) (dV 4)) (dBin D.mul (dV 1) (dV 3)))) (dNil))))) (dCons (dTup (dCons (dBin D.mul (dC (.int 2)) (dBin D.add (dBin D.mul (dV 2) (dV 3)) (dBin D.mul (dV 1) (dV 4)))) (dCons (dBin D.sub (dBin D.add (dBin D.sub (dBin D.mul (dV 1) (dV 1)) (dBin D.mul (dV 2) (dV 2))) (dBin D.mul (dV 3) (dV 3))) (dBin D.mul (dV 4) (dV 4))) (dCons (dBin D.mul (dC (.int 2)) (dBin D.sub (dBin D.mul (dV 3) (dV 4)) (dBin D.mul (dV 1) (dV 2)))) (dNil))))) (dCons (dTup (dCons (dBin D.mul (dC (.int 2)) (dBin D.sub (dBin D.mul (dV 2) (dV 4)) (dBin D.mul (dV 1) (dV 3)))) (dCons (dBin D.mul (dC (.int 2)) (dBin D.add (dBin D.mul (dV 3) (dV 4)) (dBin D.mul (dV 1) (dV 2)))) (dCons (dBin D.add (dBin D.sub (dBin D.sub (dBin D.mul (dV 1) (dV 1)) (dBin D.mul (dV 2) (dV 2))) (dBin D.mul (dV 3) (dV 3))) (dBin D.mul (dV 4) (dV 4))) (dNil))))) (dNil))))) (tgName 5)) (sSeq (sRet (dMake .Turn 2 FI_Turn (dCons (dV 5) (dCons (dBin D.add (dBin D.add (dBin D.add (dBin D.mul (dV 1) (dV 1)) (dBin D.mul (dV 2) (dV 2))) (dBin D.mul (dV 3) (dV 3))) (dBin D.mul (dV 4) (dV 4))) (dNil))))) (sNext)))))
def F_turn_by : Fn := runB 7 (S_turn_by)
theorem ok_turn_by (B : Bn) : B.Ok ("turn_by", none) 5 1 (F_turn_by) := by
  obtain ⟨fd, F⟩ := B.say.def_ (d := dd_turn_by) 26 rfl
  exact Bun.ok (k := 4) (N := N_turn_by) (ps := ["numbers"]) (S := S_turn_by) F sc_turn_by (fun _ _ _ _ _ _ us hl => match us, hl with | [_], _ => rfl) fun da me cdv A outer s H E i => (show DSs (B.G da me) (B.X N_turn_by dd_turn_by.qual dd_turn_by.scope (He.fAd B.K ("turn_by", none)) cdv A outer s H E) (defBody (top 31)) (S_turn_by) from dss_cons (ds_if (PW.pt (dw_or (dt_not (dt_tru rfl (DE.toR (de_isi rfl Bun.kit rfl (Bun.free 43 rfl) rfl (DE.toR (de_var (pv 0))) (pe_tyB "tuple" rfl (Bun.free 51 rfl) (by decide +kernel)) rfl rfl rfl)) (fun _ => rfl))) (dw_or (dt_ne rfl Bun.kit (Bun.eqOk (eqRow B (by decide)) i) i.room.units (DE.toR (de_callB call_len bLen_ok rfl (Bun.free 44 rfl) (by decide +kernel) (dra_cons (DE.toR (de_var (pv 0))) (dra_nil) rfl) (by decide) rfl rfl rfl)) (de_const pe_int (fun _ => Rep.int _)) rfl) (dw_or1 (dt_not (dt_tru rfl (DE.toR (de_callB (cr_all rfl) bAll_ok rfl (Bun.free 45 rfl) (by decide +kernel) (dra_cons (DE.toR (de_lc rfl sc_turn_by.nd (di_seq rfl (de_var (pv 0))) (blkOk_by (own := [("one", 6)]) rfl) (fun _ _ _ _ _ => dg_name (pg_name sc_turn_by.nd rfl (by first | exact Or.inl rfl | exact Or.inr rfl) (by first | exact .inl rfl | exact .inr rfl))) (fun _ _ _ _ _ => dts_nil) (fun _ _ _ _ _ => de_call (Bun.call (ok_is_integer B) i.blk (by decide) (Bun.glo 0 rfl)) rfl (da_cons (de_var (pv 6)) (da_nil) rfl) rfl rfl rfl) (by decide) (fun _ => rfl) rfl)) (dra_nil) rfl) (by decide) rfl rfl rfl)) (fun _ => rfl))))))) (dss_fail) (dss_nil)) (dss_cons (ds_if (dt_eq rfl Bun.kit (Bun.eqOk (eqRow B (by decide)) i) i.room.units (DE.toR (de_var (pv 0))) (de_tup (da_cons (de_const pe_int (fun _ => Rep.int _)) (da_cons (de_const pe_int (fun _ => Rep.int _)) (da_cons (de_const pe_int (fun _ => Rep.int _)) (da_cons (de_const pe_int (fun _ => Rep.int _)) (da_nil) rfl) rfl) rfl) rfl)) rfl) (dss_fail) (dss_nil)) (dss_cons (ds_asg (de_var (pv 0)) (dg_tup rfl rfl (dgs_cons (dg_name (pg_name sc_turn_by.nd rfl (by first | exact Or.inl rfl | exact Or.inr rfl) (by first | exact .inl rfl | exact .inr rfl))) (dgs_cons (dg_name (pg_name sc_turn_by.nd rfl (by first | exact Or.inl rfl | exact Or.inr rfl) (by first | exact .inl rfl | exact .inr rfl))) (dgs_cons (dg_name (pg_name sc_turn_by.nd rfl (by first | exact Or.inl rfl | exact Or.inr rfl) (by first | exact .inl rfl | exact .inr rfl))) (dgs_cons (dg_name (pg_name sc_turn_by.nd rfl (by first | exact Or.inl rfl | exact Or.inr rfl) (by first | exact .inl rfl | exact .inr rfl))) (dgs_nil) rfl) rfl) rfl) rfl) rfl rfl) rfl rfl rfl) (dss_cons (ds_asg (de_lst (da_cons (de_tup (da_cons (de_op op_sub rd_sub (DE.toR (de_op op_sub rd_sub (DE.toR (de_op op_addD rd_add (DE.toR (de_op op_mulX rd_mul (DE.toR (de_var (pv 1))) (DE.toR (de_var (pv 1))))) (DE.toR (de_op op_mulX rd_mul (DE.toR (de_var (pv 2))) (DE.toR (de_var (pv 2))))))) (DE.toR (de_op op_mulX rd_mul (DE.toR (de_var (pv 3))) (DE.toR (de_var (pv 3))))))) (DE.toR (de_op op_mulX rd_mul (DE.toR (de_var (pv 4))) (DE.toR (de_var (pv 4)))))) (da_cons (de_op op_mulX rd_mul (DE.toR (de_const pe_int (fun _ => Rep.int _))) (DE.toR (de_op op_sub rd_sub (DE.toR (de_op op_mulX rd_mul (DE.toR (de_var (pv 2))) (DE.toR (de_var (pv 3))))) (DE.toR (de_op op_mulX rd_mul (DE.toR (de_var (pv 1))) (DE.toR (de_var (pv 4)))))))) (da_cons (de_op op_mulX rd_mul (DE.toR (de_const pe_int (fun _ => Rep.int _))) (DE.toR (de_op op_addD rd_add (DE.toR (de_op op_mulX rd_mul (DE.toR (de_var (pv 2))) (DE.toR (de_var (pv 4))))) (DE.toR (de_op op_mulX rd_mul (DE.toR (de_var (pv 1))) (DE.toR (de_var (pv 3)))))))) (da_nil) rfl) rfl) rfl)) (da_cons (de_tup (da_cons (de_op op_mulX rd_mul (DE.toR (de_const pe_int (fun _ => Rep.int _))) (DE.toR (de_op op_addD rd_add (DE.toR (de_op op_mulX rd_mul (DE.toR (de_var (pv 2))) (DE.toR (de_var (pv 3))))) (DE.toR (de_op op_mulX rd_mul (DE.toR (de_var (pv 1))) (DE.toR (de_var (pv 4)))))))) (da_cons (de_op op_sub rd_sub (DE.toR (de_op op_addD rd_add (DE.toR (de_op op_sub rd_sub (DE.toR (de_op op_mulX rd_mul (DE.toR (de_var (pv 1))) (DE.toR (de_var (pv 1))))) (DE.toR (de_op op_mulX rd_mul (DE.toR (de_var (pv 2))) (DE.toR (de_var (pv 2))))))) (DE.toR (de_op op_mulX rd_mul (DE.toR (de_var (pv 3))) (DE.toR (de_var (pv 3))))))) (DE.toR (de_op op_mulX rd_mul (DE.toR (de_var (pv 4))) (DE.toR (de_var (pv 4)))))) (da_cons (de_op op_mulX rd_mul (DE.toR (de_const pe_int (fun _ => Rep.int _))) (DE.toR (de_op op_sub rd_sub (DE.toR (de_op op_mulX rd_mul (DE.toR (de_var (pv 3))) (DE.toR (de_var (pv 4))))) (DE.toR (de_op op_mulX rd_mul (DE.toR (de_var (pv 1))) (DE.toR (de_var (pv 2)))))))) (da_nil) rfl) rfl) rfl)) (da_cons (de_tup (da_cons (de_op op_mulX rd_mul (DE.toR (de_const pe_int (fun _ => Rep.int _))) (DE.toR (de_op op_sub rd_sub (DE.toR (de_op op_mulX rd_mul (DE.toR (de_var (pv 2))) (DE.toR (de_var (pv 4))))) (DE.toR (de_op op_mulX rd_mul (DE.toR (de_var (pv 1))) (DE.toR (de_var (pv 3)))))))) (da_cons (de_op op_mulX rd_mul (DE.toR (de_const pe_int (fun _ => Rep.int _))) (DE.toR (de_op op_addD rd_add (DE.toR (de_op op_mulX rd_mul (DE.toR (de_var (pv 3))) (DE.toR (de_var (pv 4))))) (DE.toR (de_op op_mulX rd_mul (DE.toR (de_var (pv 1))) (DE.toR (de_var (pv 2)))))))) (da_cons (de_op op_addD rd_add (DE.toR (de_op op_sub rd_sub (DE.toR (de_op op_sub rd_sub (DE.toR (de_op op_mulX rd_mul (DE.toR (de_var (pv 1))) (DE.toR (de_var (pv 1))))) (DE.toR (de_op op_mulX rd_mul (DE.toR (de_var (pv 2))) (DE.toR (de_var (pv 2))))))) (DE.toR (de_op op_mulX rd_mul (DE.toR (de_var (pv 3))) (DE.toR (de_var (pv 3))))))) (DE.toR (de_op op_mulX rd_mul (DE.toR (de_var (pv 4))) (DE.toR (de_var (pv 4)))))) (da_nil) rfl) rfl) rfl)) (da_nil) rfl) rfl) rfl)) (dg_name (pg_name sc_turn_by.nd rfl (by first | exact Or.inl rfl | exact Or.inr rfl) (by first | exact .inl rfl | exact .inr rfl))) rfl rfl rfl) (dss_cons (ds_ret (de_make (Bun.make (ok_Turn___init__ B) i (by decide) rfl (Bun.glo 41 rfl) (B.say.fact 59 rfl) (B.say.fact 41 rfl)) rfl (da_cons (de_var (pv 5)) (da_cons (de_op op_addD rd_add (DE.toR (de_op op_addD rd_add (DE.toR (de_op op_addD rd_add (DE.toR (de_op op_mulX rd_mul (DE.toR (de_var (pv 1))) (DE.toR (de_var (pv 1))))) (DE.toR (de_op op_mulX rd_mul (DE.toR (de_var (pv 2))) (DE.toR (de_var (pv 2))))))) (DE.toR (de_op op_mulX rd_mul (DE.toR (de_var (pv 3))) (DE.toR (de_var (pv 3))))))) (DE.toR (de_op op_mulX rd_mul (DE.toR (de_var (pv 4))) (DE.toR (de_var (pv 4)))))) (da_nil) rfl) rfl) rfl rfl rfl)) (dss_nil))))))
def N_apply : List Str := ["turn", "direction", "row"]
theorem sc_apply : FnScope N_apply ["turn", "direction"] (defScope (top 32)) := ⟨rfl, rfl, rfl, by decide +kernel, rfl, by decide +kernel, by decide +kernel⟩
def S_apply : SemS := sSeq (sDrop (dCall 1 F_check_turn (dCons (dV 0) (dNil)))) (sSeq (sDrop (dCall 2 F_check_triple (dCons (dC (.str "direction")) (dCons (dV 1) (dNil))))) (sSeq (sRet (dCall 1 F_least (dCons (dBi bTup (dCons (dLc [2] (dItems (dFld "rows" (dV 0))) (tgName 2) (dTrue) (dCall 2 F_dot (dCons (dV 2) (dCons (dV 1) (dNil))))) (dNil))) (dNil)))) (sNext)))
def F_apply : Fn := runB 3 (S_apply)
theorem ok_apply (B : Bn) : B.Ok ("apply", none) 6 2 (F_apply) := by
  obtain ⟨fd, F⟩ := B.say.def_ (d := dd_apply) 27 rfl
  exact Bun.ok (k := 5) (N := N_apply) (ps := ["turn", "direction"]) (S := S_apply) F sc_apply (fun _ _ _ _ _ _ us hl => match us, hl with | [_, _], _ => rfl) fun da me cdv A outer s H E i => (show DSs (B.G da me) (B.X N_apply dd_apply.qual dd_apply.scope (He.fAd B.K ("apply", none)) cdv A outer s H E) (defBody (top 32)) (S_apply) from dss_cons (ds_expr (de_call (Bun.call (ok_check_turn B) i (by decide) (Bun.glo 20 rfl)) rfl (da_cons (de_var (pv 0)) (da_nil) rfl) rfl rfl rfl) rfl) (dss_cons (ds_expr (de_call (Bun.call (ok_check_triple B) i (by decide) (Bun.glo 8 rfl)) rfl (da_cons (de_const pe_str (fun _ => Rep.str _)) (da_cons (de_var (pv 1)) (da_nil) rfl) rfl) rfl rfl rfl) rfl) (dss_cons (ds_ret (de_call (Bun.call (ok_least B) i (by decide) (Bun.glo 9 rfl)) rfl (da_cons (de_callT call_tuple_of bTup_ok rfl (Bun.free 51 rfl) (by decide +kernel) (dra_cons (DE.toR (de_lc rfl sc_apply.nd (di_seq rfl (de_fld rfl (Bun.kit.cls) (de_var (pv 0)) rfl)) (blkOk_by (own := [("row", 2)]) rfl) (fun _ _ _ _ _ => dg_name (pg_name sc_apply.nd rfl (by first | exact Or.inl rfl | exact Or.inr rfl) (by first | exact .inl rfl | exact .inr rfl))) (fun _ _ _ _ _ => dts_nil) (fun _ _ _ _ _ => de_call (Bun.call (ok_dot B) i.blk (by decide) (Bun.glo 11 rfl)) rfl (da_cons (de_var (pv 2)) (da_cons (de_var (pv 1)) (da_nil) rfl) rfl) rfl rfl rfl) (by decide) (fun _ => rfl) rfl)) (dra_nil) rfl) (by decide) rfl rfl rfl) (da_nil) rfl) rfl rfl rfl)) (dss_nil))))
def N_back : List Str := ["turn", "column", "row"]
theorem sc_back : FnScope N_back ["turn"] (defScope (top 33)) := ⟨rfl, rfl, rfl, by decide +kernel, rfl, by decide +kernel, by decide +kernel⟩
def S_back : SemS := sSeq (sDrop (dCall 1 F_check_turn (dCons (dV 0) (dNil)))) (sSeq (sRet (dMake .Turn 2 FI_Turn (dCons (dLc [1] (dRng (dCons (dC (.int 3)) dNil)) (tgName 1) (dTrue) (dBi bTup (dCons (dLc [2] (dRng (dCons (dC (.int 3)) dNil)) (tgName 2) (dTrue) (dBin D.ix (dBin D.ix (dFld "rows" (dV 0)) (dV 2)) (dV 1))) (dNil)))) (dCons (dFld "below" (dV 0)) (dNil))))) (sNext))
def F_back : Fn := runB 3 (S_back)
theorem ok_back (B : Bn) : B.Ok ("back", none) 5 1 (F_back) := by
  obtain ⟨fd, F⟩ := B.say.def_ (d := dd_back) 28 rfl
  exact Bun.ok (k := 4) (N := N_back) (ps := ["turn"]) (S := S_back) F sc_back (fun _ _ _ _ _ _ us hl => match us, hl with | [_], _ => rfl) fun da me cdv A outer s H E i => (show DSs (B.G da me) (B.X N_back dd_back.qual dd_back.scope (He.fAd B.K ("back", none)) cdv A outer s H E) (defBody (top 33)) (S_back) from dss_cons (ds_expr (de_call (Bun.call (ok_check_turn B) i (by decide) (Bun.glo 20 rfl)) rfl (da_cons (de_var (pv 0)) (da_nil) rfl) rfl rfl rfl) rfl) (dss_cons (ds_ret (de_make (Bun.make (ok_Turn___init__ B) i (by decide) rfl (Bun.glo 41 rfl) (B.say.fact 59 rfl) (B.say.fact 41 rfl)) rfl (da_cons (de_lc rfl sc_back.nd (di_range1 rfl (Bun.free 50 rfl) (de_const pe_int (fun _ => Rep.int _)) rfl) (blkOk_by (own := [("column", 1)]) rfl) (fun _ _ _ _ _ => dg_name (pg_name sc_back.nd rfl (by first | exact Or.inl rfl | exact Or.inr rfl) (by first | exact .inl rfl | exact .inr rfl))) (fun _ _ _ _ _ => dts_nil) (fun _ _ _ _ _ => de_callT call_tuple_of bTup_ok rfl (Bun.free 51 rfl) (by decide +kernel) (dra_cons (DE.toR (de_lc rfl sc_back.nd (di_range1 rfl (Bun.free 50 rfl) (de_const pe_int (fun _ => Rep.int _)) rfl) (blkOk_by (own := [("row", 2)]) rfl) (fun _ _ _ _ _ => dg_name (pg_name sc_back.nd rfl (by first | exact Or.inl rfl | exact Or.inr rfl) (by first | exact .inl rfl | exact .inr rfl))) (fun _ _ _ _ _ => dts_nil) (fun _ _ _ _ _ => de_ix rfl (DE.toR (de_ix rfl (DE.toR (de_fld rfl (Bun.kit.cls) (de_var (pv 0)) rfl)) (DE.toR (de_var (pv 2))) (fun _ _ => rfl))) (DE.toR (de_var (pv 1))) (fun _ _ => rfl)) (by decide) (fun _ => rfl) rfl)) (dra_nil) rfl) (by decide) rfl rfl rfl) (by decide) (fun _ => rfl) rfl) (da_cons (de_fld rfl (Bun.kit.cls) (de_var (pv 0)) rfl) (da_nil) rfl) rfl) rfl rfl rfl)) (dss_nil)))
def N_then : List Str := ["one", "other", "columns", "rows", "row", "column"]
theorem sc_then : FnScope N_then ["one", "other"] (defScope (top 34)) := ⟨rfl, rfl, rfl, by decide +kernel, rfl, by decide +kernel, by decide +kernel⟩
def S_then : SemS := sSeq (sDrop (dCall 1 F_check_turn (dCons (dV 0) (dNil)))) (sSeq (sDrop (dCall 1 F_check_turn (dCons (dV 1) (dNil)))) (sSeq (sAsg (dFld "rows" (dCall 1 F_back (dCons (dV 0) (dNil)))) (tgName 2)) (sSeq (sAsg (dLc [4] (dItems (dFld "rows" (dV 1))) (tgName 4) (dTrue) (dBi bTup (dCons (dLc [5] (dItems (dV 2)) (tgName 5) (dTrue) (dCall 2 F_dot (dCons (dV 4) (dCons (dV 5) (dNil))))) (dNil)))) (tgName 3)) (sSeq (sRet (dMake .Turn 2 FI_Turn (dCons (dV 3) (dCons (dBin D.mul (dFld "below" (dV 0)) (dFld "below" (dV 1))) (dNil))))) (sNext)))))
def F_then : Fn := runB 6 (S_then)
theorem ok_then (B : Bn) : B.Ok ("then", none) 6 2 (F_then) := by
  obtain ⟨fd, F⟩ := B.say.def_ (d := dd_then) 29 rfl
  exact Bun.ok (k := 5) (N := N_then) (ps := ["one", "other"]) (S := S_then) F sc_then (fun _ _ _ _ _ _ us hl => match us, hl with | [_, _], _ => rfl) fun da me cdv A outer s H E i => (show DSs (B.G da me) (B.X N_then dd_then.qual dd_then.scope (He.fAd B.K ("then", none)) cdv A outer s H E) (defBody (top 34)) (S_then) from dss_cons (ds_expr (de_call (Bun.call (ok_check_turn B) i (by decide) (Bun.glo 20 rfl)) rfl (da_cons (de_var (pv 0)) (da_nil) rfl) rfl rfl rfl) rfl) (dss_cons (ds_expr (de_call (Bun.call (ok_check_turn B) i (by decide) (Bun.glo 20 rfl)) rfl (da_cons (de_var (pv 1)) (da_nil) rfl) rfl rfl rfl) rfl) (dss_cons (ds_asg (de_fld rfl (Bun.kit.cls) (de_call (Bun.call (ok_back B) i (by decide) (Bun.glo 25 rfl)) rfl (da_cons (de_var (pv 0)) (da_nil) rfl) rfl rfl rfl) rfl) (dg_name (pg_name sc_then.nd rfl (by first | exact Or.inl rfl | exact Or.inr rfl) (by first | exact .inl rfl | exact .inr rfl))) rfl rfl rfl) (dss_cons (ds_setLc (i := 3) rfl sc_then.nd rfl rfl (sw_true rfl rfl rfl rfl) (di_seq rfl (de_fld rfl (Bun.kit.cls) (de_var (pv 1)) rfl)) (blkOk_by (own := [("row", 4)]) rfl) (fun _ _ _ _ _ => dg_name (pg_name sc_then.nd rfl (by first | exact Or.inl rfl | exact Or.inr rfl) (by first | exact .inl rfl | exact .inr rfl))) (fun _ _ _ _ _ => dts_nil) (fun _ _ _ _ _ => de_callT call_tuple_of bTup_ok rfl (Bun.free 51 rfl) (by decide +kernel) (dra_cons (DE.toR (de_lc rfl sc_then.nd (di_seq rfl (de_var (pv 2))) (blkOk_by (own := [("column", 5)]) rfl) (fun _ _ _ _ _ => dg_name (pg_name sc_then.nd rfl (by first | exact Or.inl rfl | exact Or.inr rfl) (by first | exact .inl rfl | exact .inr rfl))) (fun _ _ _ _ _ => dts_nil) (fun _ _ _ _ _ => de_call (Bun.call (ok_dot B) i.blk.blk (by decide) (Bun.glo 11 rfl)) rfl (da_cons (de_var (pv 4)) (da_cons (de_var (pv 5)) (da_nil) rfl) rfl) rfl rfl rfl) (by decide) (fun _ => rfl) rfl)) (dra_nil) rfl) (by decide) rfl rfl rfl) (by decide) (fun _ => rfl) rfl) (dss_cons (ds_ret (de_make (Bun.make (ok_Turn___init__ B) i (by decide) rfl (Bun.glo 41 rfl) (B.say.fact 59 rfl) (B.say.fact 41 rfl)) rfl (da_cons (de_var (pv 3)) (da_cons (de_op op_mulX rd_mul (DE.toR (de_fld rfl (Bun.kit.cls) (de_var (pv 0)) rfl)) (DE.toR (de_fld rfl (Bun.kit.cls) (de_var (pv 1)) rfl))) (da_nil) rfl) rfl) rfl rfl rfl)) (dss_nil))))))
def N_turn_of : List Str := ["basis", "images", "whole", "columns", "size", "duals", "rows", "row", "column", "at"]
theorem sc_turn_of : FnScope N_turn_of ["basis", "images", "whole"] (defScope (top 37)) := ⟨rfl, rfl, rfl, by decide +kernel, rfl, by decide +kernel, by decide +kernel⟩
def S_turn_of : SemS := sSeq (sAsg (dLst (dCons (dCall 2 F_times (dCons (dV 2) (dCons (dBin D.ix (dV 1) (dC (.int 0))) (dNil)))) (dCons (dCall 2 F_times (dCons (dV 2) (dCons (dBin D.ix (dV 1) (dC (.int 1))) (dNil)))) (dCons (dBin D.ix (dV 1) (dC (.int 2))) (dNil))))) (tgName 3)) (sSeq (sAsg (dCall 3 F_det (dCons (dBin D.ix (dV 0) (dC (.int 0))) (dCons (dBin D.ix (dV 0) (dC (.int 1))) (dCons (dBin D.ix (dV 0) (dC (.int 2))) (dNil))))) (tgName 4)) (sSeq (sAsg (dLst (dCons (dCall 2 F_cross (dCons (dBin D.ix (dV 0) (dC (.int 1))) (dCons (dBin D.ix (dV 0) (dC (.int 2))) (dNil)))) (dCons (dCall 2 F_cross (dCons (dBin D.ix (dV 0) (dC (.int 2))) (dCons (dBin D.ix (dV 0) (dC (.int 0))) (dNil)))) (dCons (dCall 2 F_cross (dCons (dBin D.ix (dV 0) (dC (.int 0))) (dCons (dBin D.ix (dV 0) (dC (.int 1))) (dNil)))) (dNil))))) (tgName 5)) (sSeq (sOwn (dNil) 6) (sSeq (sFor (dRng (dCons (dC (.int 3)) dNil)) (tgName 7) (sSeq (sApp 6 (dBi bTup (dCons (dLc [8] (dRng (dCons (dC (.int 3)) dNil)) (tgName 8) (dTrue) (dBi bSum (dCons (dLc [9] (dRng (dCons (dC (.int 3)) dNil)) (tgName 9) (dTrue) (dBin D.mul (dBin D.ix (dBin D.ix (dV 3) (dV 9)) (dV 7)) (dBin D.ix (dBin D.ix (dV 5) (dV 9)) (dV 8)))) (dNil)))) (dNil)))) (sNext))) (sSeq (sFrz 6 (sRet (dMake .Turn 2 FI_Turn (dCons (dV 6) (dCons (dBin D.mul (dBin D.mul (dV 4) (dV 2)) (dV 2)) (dNil)))))) (sNext))))))
def F_turn_of : Fn := runB 10 (S_turn_of)
theorem ok_turn_of (B : Bn) : B.Ok ("turn_of", none) 5 3 (F_turn_of) := by
  obtain ⟨fd, F⟩ := B.say.def_ (d := dd_turn_of) 32 rfl
  exact Bun.ok (k := 4) (N := N_turn_of) (ps := ["basis", "images", "whole"]) (S := S_turn_of) F sc_turn_of (fun _ _ _ _ _ _ us hl => match us, hl with | [_, _, _], _ => rfl) fun da me cdv A outer s H E i => (show DSs (B.G da me) (B.X N_turn_of dd_turn_of.qual dd_turn_of.scope (He.fAd B.K ("turn_of", none)) cdv A outer s H E) (defBody (top 37)) (S_turn_of) from dss_cons (ds_asg (de_lst (da_cons (de_call (Bun.call (ok_times B) i (by decide) (Bun.glo 14 rfl)) rfl (da_cons (de_var (pv 2)) (da_cons (de_ix rfl (DE.toR (de_var (pv 1))) (DE.toR (de_const pe_int (fun _ => Rep.int _))) (fun _ _ => rfl)) (da_nil) rfl) rfl) rfl rfl rfl) (da_cons (de_call (Bun.call (ok_times B) i (by decide) (Bun.glo 14 rfl)) rfl (da_cons (de_var (pv 2)) (da_cons (de_ix rfl (DE.toR (de_var (pv 1))) (DE.toR (de_const pe_int (fun _ => Rep.int _))) (fun _ _ => rfl)) (da_nil) rfl) rfl) rfl rfl rfl) (da_cons (de_ix rfl (DE.toR (de_var (pv 1))) (DE.toR (de_const pe_int (fun _ => Rep.int _))) (fun _ _ => rfl)) (da_nil) rfl) rfl) rfl)) (dg_name (pg_name sc_turn_of.nd rfl (by first | exact Or.inl rfl | exact Or.inr rfl) (by first | exact .inl rfl | exact .inr rfl))) rfl rfl rfl) (dss_cons (ds_asg (de_call (Bun.call (ok_det B) i (by decide) (Bun.glo 13 rfl)) rfl (da_cons (de_ix rfl (DE.toR (de_var (pv 0))) (DE.toR (de_const pe_int (fun _ => Rep.int _))) (fun _ _ => rfl)) (da_cons (de_ix rfl (DE.toR (de_var (pv 0))) (DE.toR (de_const pe_int (fun _ => Rep.int _))) (fun _ _ => rfl)) (da_cons (de_ix rfl (DE.toR (de_var (pv 0))) (DE.toR (de_const pe_int (fun _ => Rep.int _))) (fun _ _ => rfl)) (da_nil) rfl) rfl) rfl) rfl rfl rfl) (dg_name (pg_name sc_turn_of.nd rfl (by first | exact Or.inl rfl | exact Or.inr rfl) (by first | exact .inl rfl | exact .inr rfl))) rfl rfl rfl) (dss_cons (ds_asg (de_lst (da_cons (de_call (Bun.call (ok_cross B) i (by decide) (Bun.glo 12 rfl)) rfl (da_cons (de_ix rfl (DE.toR (de_var (pv 0))) (DE.toR (de_const pe_int (fun _ => Rep.int _))) (fun _ _ => rfl)) (da_cons (de_ix rfl (DE.toR (de_var (pv 0))) (DE.toR (de_const pe_int (fun _ => Rep.int _))) (fun _ _ => rfl)) (da_nil) rfl) rfl) rfl rfl rfl) (da_cons (de_call (Bun.call (ok_cross B) i (by decide) (Bun.glo 12 rfl)) rfl (da_cons (de_ix rfl (DE.toR (de_var (pv 0))) (DE.toR (de_const pe_int (fun _ => Rep.int _))) (fun _ _ => rfl)) (da_cons (de_ix rfl (DE.toR (de_var (pv 0))) (DE.toR (de_const pe_int (fun _ => Rep.int _))) (fun _ _ => rfl)) (da_nil) rfl) rfl) rfl rfl rfl) (da_cons (de_call (Bun.call (ok_cross B) i (by decide) (Bun.glo 12 rfl)) rfl (da_cons (de_ix rfl (DE.toR (de_var (pv 0))) (DE.toR (de_const pe_int (fun _ => Rep.int _))) (fun _ _ => rfl)) (da_cons (de_ix rfl (DE.toR (de_var (pv 0))) (DE.toR (de_const pe_int (fun _ => Rep.int _))) (fun _ _ => rfl)) (da_nil) rfl) rfl) rfl rfl rfl) (da_nil) rfl) rfl) rfl)) (dg_name (pg_name sc_turn_of.nd rfl (by first | exact Or.inl rfl | exact Or.inr rfl) (by first | exact .inl rfl | exact .inr rfl))) rfl rfl rfl) (dss_cons (ds_own (da_nil) (fun te h => ps_set (i := 6) sc_turn_of.nd rfl (by first | exact Or.inl rfl | exact Or.inr rfl) h rfl)) (dss_cons (ds_for PassesOwn.never rfl (di_range1 rfl (Bun.free 50 rfl) (de_const pe_int (fun _ => Rep.int _)) rfl) (dg_name (pg_name sc_turn_of.nd rfl (by first | exact Or.inl rfl | exact Or.inr rfl) (by first | exact .inl rfl | exact .inr rfl))) (dss_cons (ds_app (pv 6) (de_callT call_tuple_of bTup_ok rfl (Bun.free 51 rfl) (by decide +kernel) (dra_cons (DE.toR (de_lc rfl sc_turn_of.nd (di_range1 rfl (Bun.free 50 rfl) (de_const pe_int (fun _ => Rep.int _)) rfl) (blkOk_by (own := [("column", 8)]) rfl) (fun _ _ _ _ _ => dg_name (pg_name sc_turn_of.nd rfl (by first | exact Or.inl rfl | exact Or.inr rfl) (by first | exact .inl rfl | exact .inr rfl))) (fun _ _ _ _ _ => dts_nil) (fun _ _ _ _ _ => de_callB (cr_sum rfl) bSum_ok rfl (Bun.free 47 rfl) (by decide +kernel) (dra_cons (DE.toR (de_lc rfl sc_turn_of.nd (di_range1 rfl (Bun.free 50 rfl) (de_const pe_int (fun _ => Rep.int _)) rfl) (blkOk_by (own := [("at", 9)]) rfl) (fun _ _ _ _ _ => dg_name (pg_name sc_turn_of.nd rfl (by first | exact Or.inl rfl | exact Or.inr rfl) (by first | exact .inl rfl | exact .inr rfl))) (fun _ _ _ _ _ => dts_nil) (fun _ _ _ _ _ => de_op op_mulX rd_mul (DE.toR (de_ix rfl (DE.toR (de_ix rfl (DE.toR (de_var (pv 3))) (DE.toR (de_var (pv 9))) (fun _ _ => rfl))) (DE.toR (de_var (pv 7))) (fun _ _ => rfl))) (DE.toR (de_ix rfl (DE.toR (de_ix rfl (DE.toR (de_var (pv 5))) (DE.toR (de_var (pv 9))) (fun _ _ => rfl))) (DE.toR (de_var (pv 8))) (fun _ _ => rfl)))) (by decide) (fun _ => rfl) rfl)) (dra_nil) rfl) (by decide) rfl rfl rfl) (by decide) (fun _ => rfl) rfl)) (dra_nil) rfl) (by decide) rfl rfl rfl) rfl rfl rfl rfl rfl rfl) (dss_nil)) (fun _ => rfl)) (dss_cons (ds_frz (ds_ret (de_make (Bun.make (ok_Turn___init__ B) i (by decide) rfl (Bun.glo 41 rfl) (B.say.fact 59 rfl) (B.say.fact 41 rfl)) rfl (da_cons (de_var (pv 6)) (da_cons (de_op op_mulX rd_mul (DE.toR (de_op op_mulX rd_mul (DE.toR (de_var (pv 4))) (DE.toR (de_var (pv 2))))) (DE.toR (de_var (pv 2)))) (da_nil) rfl) rfl) rfl rfl rfl))) (dss_nil)))))))
def N_axis_of : List Str := ["turn", "rows", "one", "other", "found", "row", "at", "number"]
theorem sc_axis_of : FnScope N_axis_of ["turn"] (defScope (top 38)) := ⟨rfl, rfl, rfl, by decide +kernel, rfl, by decide +kernel, by decide +kernel⟩
def S_axis_of : SemS := sSeq (sDrop (dCall 1 F_check_turn (dCons (dV 0) (dNil)))) (sSeq (sIf (dOrB (dTru (dMeth mt_is_mirrored "is_mirrored" (dV 0) dNil)) (dEqB eqT false (dV 0) (dCall 0 F_no_turn dNil))) (sSeq (sRet (dC .non)) (sNext)) (sNext)) (sSeq (sAsg (dLc [5] (dRng (dCons (dC (.int 3)) dNil)) (tgName 5) (dTrue) (dBi bTup (dCons (dLc [6, 7] (dEnumA (dBin D.ix (dFld "rows" (dV 0)) (dV 5))) (tgTup 2 (tgsCons (tgName 6) (tgsCons (tgName 7) (tgsNil)))) (dTrue) (dBin D.sub (dV 7) (dIf (dEqB eqT false (dV 6) (dV 5)) (dFld "below" (dV 0)) (dC (.int 0))))) (dNil)))) (tgName 1)) (sSeq (sFor (dItems (dTup (dCons (dTup (dCons (dC (.int 0)) (dCons (dC (.int 1)) (dNil)))) (dCons (dTup (dCons (dC (.int 0)) (dCons (dC (.int 2)) (dNil)))) (dCons (dTup (dCons (dC (.int 1)) (dCons (dC (.int 2)) (dNil)))) (dNil)))))) (tgTup 2 (tgsCons (tgName 2) (tgsCons (tgName 3) (tgsNil)))) (sSeq (sIf (dEqB eqT true (dCall 2 F_cross (dCons (dBin D.ix (dV 1) (dV 2)) (dCons (dBin D.ix (dV 1) (dV 3)) (dNil)))) (dTup (dCons (dC (.int 0)) (dCons (dC (.int 0)) (dCons (dC (.int 0)) (dNil)))))) (sSeq (sAsg (dCall 1 F_least (dCons (dCall 2 F_cross (dCons (dBin D.ix (dV 1) (dV 2)) (dCons (dBin D.ix (dV 1) (dV 3)) (dNil)))) (dNil))) (tgName 4)) (sSeq (sRet (dIf (dBinB cGtA (dV 4) (dTup (dCons (dC (.int 0)) (dCons (dC (.int 0)) (dCons (dC (.int 0)) (dNil)))))) (dV 4) (dCall 2 F_times (dCons (dUn D.neg (dC (.int 1))) (dCons (dV 4) (dNil)))))) (sNext))) (sNext)) (sNext))) (sSeq (sRet (dC .non)) (sNext)))))
def F_axis_of : Fn := runB 8 (S_axis_of)
theorem ok_axis_of (B : Bn) : B.Ok ("axis_of", none) 6 1 (F_axis_of) := by
  obtain ⟨fd, F⟩ := B.say.def_ (d := dd_axis_of) 33 rfl
  exact Bun.ok (k := 5) (N := N_axis_of) (ps := ["turn"]) (S := S_axis_of) F sc_axis_of (fun _ _ _ _ _ _ us hl => match us, hl with | [_], _ => rfl) fun da me cdv A outer s H E i => (show DSs (B.G da me) (B.X N_axis_of dd_axis_of.qual dd_axis_of.scope (He.fAd B.K ("axis_of", none)) cdv A outer s H E) (defBody (top 38)) (S_axis_of) from dss_cons (ds_expr (de_call (Bun.call (ok_check_turn B) i (by decide) (Bun.glo 20 rfl)) rfl (da_cons (de_var (pv 0)) (da_nil) rfl) rfl rfl rfl) rfl) (dss_cons (ds_if (PW.pt (dw_or (dt_tru rfl (DE.toR (de_meth0 (mtOk_is_mirrored B i (by decide)) (de_var (pv 0)) rfl)) (fun _ => rfl)) (dw_or1 (dt_eq rfl Bun.kit (Bun.eqOk (eqRow B (by decide)) i) i.room.units (DE.toR (de_var (pv 0))) (de_call0 (Bun.call (ok_no_turn B) i (by decide) (Bun.glo 21 rfl)) rfl rfl) rfl)))) (dss_cons (ds_ret (de_const pe_non (fun _ => Rep.non))) (dss_nil)) (dss_nil)) (dss_cons (ds_setLc (i := 1) rfl sc_axis_of.nd rfl rfl (sw_true rfl rfl rfl rfl) (di_range1 rfl (Bun.free 50 rfl) (de_const pe_int (fun _ => Rep.int _)) rfl) (blkOk_by (own := [("row", 5)]) rfl) (fun _ _ _ _ _ => dg_name (pg_name sc_axis_of.nd rfl (by first | exact Or.inl rfl | exact Or.inr rfl) (by first | exact .inl rfl | exact .inr rfl))) (fun _ _ _ _ _ => dts_nil) (fun _ _ _ _ _ => de_callT call_tuple_of bTup_ok rfl (Bun.free 51 rfl) (by decide +kernel) (dra_cons (DE.toR (de_lc rfl sc_axis_of.nd (di_enumA rfl rfl (Bun.free 49 rfl) (de_ix rfl (DE.toR (de_fld rfl (Bun.kit.cls) (de_var (pv 0)) rfl)) (DE.toR (de_var (pv 5))) (fun _ _ => rfl)) rfl) (blkOk_by (own := [("at", 6), ("number", 7)]) rfl) (fun _ _ _ _ _ => dg_tup rfl rfl (dgs_cons (dg_name (pg_name sc_axis_of.nd rfl (by first | exact Or.inl rfl | exact Or.inr rfl) (by first | exact .inl rfl | exact .inr rfl))) (dgs_cons (dg_name (pg_name sc_axis_of.nd rfl (by first | exact Or.inl rfl | exact Or.inr rfl) (by first | exact .inl rfl | exact .inr rfl))) (dgs_nil) rfl) rfl) rfl rfl) (fun _ _ _ _ _ => dts_nil) (fun _ _ _ _ _ => de_op op_sub rd_sub (DE.toR (de_var (pv 7))) (DE.toR (de_if (dt_eq rfl Bun.kit (Bun.eqOk (eqRow B (by decide)) i.blk.blk) i.blk.blk.room.units (DE.toR (de_var (pv 6))) (de_var (pv 5)) rfl) (de_fld rfl (Bun.kit.cls) (de_var (pv 0)) rfl) (de_const pe_int (fun _ => Rep.int _))))) (by decide) (fun _ => rfl) rfl)) (dra_nil) rfl) (by decide) rfl rfl rfl) (by decide) (fun _ => rfl) rfl) (dss_cons (ds_for PassesOwn.never rfl (di_seq rfl (de_tup (da_cons (de_tup (da_cons (de_const pe_int (fun _ => Rep.int _)) (da_cons (de_const pe_int (fun _ => Rep.int _)) (da_nil) rfl) rfl)) (da_cons (de_tup (da_cons (de_const pe_int (fun _ => Rep.int _)) (da_cons (de_const pe_int (fun _ => Rep.int _)) (da_nil) rfl) rfl)) (da_cons (de_tup (da_cons (de_const pe_int (fun _ => Rep.int _)) (da_cons (de_const pe_int (fun _ => Rep.int _)) (da_nil) rfl) rfl)) (da_nil) rfl) rfl) rfl))) (dg_tup rfl rfl (dgs_cons (dg_name (pg_name sc_axis_of.nd rfl (by first | exact Or.inl rfl | exact Or.inr rfl) (by first | exact .inl rfl | exact .inr rfl))) (dgs_cons (dg_name (pg_name sc_axis_of.nd rfl (by first | exact Or.inl rfl | exact Or.inr rfl) (by first | exact .inl rfl | exact .inr rfl))) (dgs_nil) rfl) rfl) rfl rfl) (dss_cons (ds_if (dt_ne rfl Bun.kit (Bun.eqOk (eqRow B (by decide)) i) i.room.units (DE.toR (de_call (Bun.call (ok_cross B) i (by decide) (Bun.glo 12 rfl)) rfl (da_cons (de_ix rfl (DE.toR (de_var (pv 1))) (DE.toR (de_var (pv 2))) (fun _ _ => rfl)) (da_cons (de_ix rfl (DE.toR (de_var (pv 1))) (DE.toR (de_var (pv 3))) (fun _ _ => rfl)) (da_nil) rfl) rfl) rfl rfl rfl)) (de_tup (da_cons (de_const pe_int (fun _ => Rep.int _)) (da_cons (de_const pe_int (fun _ => Rep.int _)) (da_cons (de_const pe_int (fun _ => Rep.int _)) (da_nil) rfl) rfl) rfl)) rfl) (dss_cons (ds_asg (de_call (Bun.call (ok_least B) i (by decide) (Bun.glo 9 rfl)) rfl (da_cons (de_call (Bun.call (ok_cross B) i (by decide) (Bun.glo 12 rfl)) rfl (da_cons (de_ix rfl (DE.toR (de_var (pv 1))) (DE.toR (de_var (pv 2))) (fun _ _ => rfl)) (da_cons (de_ix rfl (DE.toR (de_var (pv 1))) (DE.toR (de_var (pv 3))) (fun _ _ => rfl)) (da_nil) rfl) rfl) rfl rfl rfl) (da_nil) rfl) rfl rfl rfl) (dg_name (pg_name sc_axis_of.nd rfl (by first | exact Or.inl rfl | exact Or.inr rfl) (by first | exact .inl rfl | exact .inr rfl))) rfl rfl rfl) (dss_cons (ds_ret (de_if (dc_test (op_gtA i.room.units0) rd_gtA (DE.toR (de_var (pv 4))) (DE.toR (de_tup (da_cons (de_const pe_int (fun _ => Rep.int _)) (da_cons (de_const pe_int (fun _ => Rep.int _)) (da_cons (de_const pe_int (fun _ => Rep.int _)) (da_nil) rfl) rfl) rfl))) rfl) (de_var (pv 4)) (de_call (Bun.call (ok_times B) i (by decide) (Bun.glo 14 rfl)) rfl (da_cons (de_neg (de_const pe_int (fun _ => Rep.int _))) (da_cons (de_var (pv 4)) (da_nil) rfl) rfl) rfl rfl rfl))) (dss_nil))) (dss_nil)) (dss_nil)) (fun _ => rfl)) (dss_cons (ds_ret (de_const pe_non (fun _ => Rep.non))) (dss_nil))))))
def N_order_of : List Str := ["turn", "most", "now", "many"]
theorem sc_order_of : FnScope N_order_of ["turn", "most"] (defScope (top 39)) := ⟨rfl, rfl, rfl, by decide +kernel, rfl, by decide +kernel, by decide +kernel⟩
def S_order_of : SemS := sSeq (sDrop (dCall 1 F_check_turn (dCons (dV 0) (dNil)))) (sSeq (sDrop (dCall 4 F_check_number (dCons (dC (.str "most")) (dCons (dV 1) (dCons (dC (.int 0)) (dCons (dC (.int 999)) (dNil))))))) (sSeq (sAsg (dV 0) (tgName 2)) (sSeq (sFor (dRng (dCons (dC (.int 1)) (dCons (dBin D.add (dV 1) (dC (.int 1))) dNil))) (tgName 3) (sSeq (sIf (dEqB eqT false (dV 2) (dCall 0 F_no_turn dNil)) (sSeq (sRet (dV 3)) (sNext)) (sNext)) (sSeq (sAsg (dCall 2 F_then (dCons (dV 2) (dCons (dV 0) (dNil)))) (tgName 2)) (sNext)))) (sSeq (sRet (dC .non)) (sNext)))))
def F_order_of : Fn := runB 4 (S_order_of)
theorem ok_order_of (B : Bn) : B.Ok ("order_of", none) 7 2 (F_order_of) := by
  obtain ⟨fd, F⟩ := B.say.def_ (d := dd_order_of) 34 rfl
  exact Bun.ok (k := 6) (N := N_order_of) (ps := ["turn", "most"]) (S := S_order_of) F sc_order_of (fun _ _ _ _ _ _ us hl => match us, hl with | [_, _], _ => rfl) fun da me cdv A outer s H E i => (show DSs (B.G da me) (B.X N_order_of dd_order_of.qual dd_order_of.scope (He.fAd B.K ("order_of", none)) cdv A outer s H E) (defBody (top 39)) (S_order_of) from dss_cons (ds_expr (de_call (Bun.call (ok_check_turn B) i (by decide) (Bun.glo 20 rfl)) rfl (da_cons (de_var (pv 0)) (da_nil) rfl) rfl rfl rfl) rfl) (dss_cons (ds_expr (de_call (Bun.call (ok_check_number B) i (by decide) (Bun.glo 2 rfl)) rfl (da_cons (de_const pe_str (fun _ => Rep.str _)) (da_cons (de_var (pv 1)) (da_cons (de_const pe_int (fun _ => Rep.int _)) (da_cons (de_const pe_int (fun _ => Rep.int _)) (da_nil) rfl) rfl) rfl) rfl) rfl rfl rfl) rfl) (dss_cons (ds_asg (de_var (pv 0)) (dg_name (pg_name sc_order_of.nd rfl (by first | exact Or.inl rfl | exact Or.inr rfl) (by first | exact .inl rfl | exact .inr rfl))) rfl rfl rfl) (dss_cons (ds_for PassesOwn.never rfl (di_range2 rfl (Bun.free 50 rfl) (de_const pe_int (fun _ => Rep.int _)) (de_op op_addD rd_add (DE.toR (de_var (pv 1))) (DE.toR (de_const pe_int (fun _ => Rep.int _)))) rfl rfl) (dg_name (pg_name sc_order_of.nd rfl (by first | exact Or.inl rfl | exact Or.inr rfl) (by first | exact .inl rfl | exact .inr rfl))) (dss_cons (ds_if (dt_eq rfl Bun.kit (Bun.eqOk (eqRow B (by decide)) i) i.room.units (DE.toR (de_var (pv 2))) (de_call0 (Bun.call (ok_no_turn B) i (by decide) (Bun.glo 21 rfl)) rfl rfl) rfl) (dss_cons (ds_ret (de_var (pv 3))) (dss_nil)) (dss_nil)) (dss_cons (ds_asg (de_call (Bun.call (ok_then B) i (by decide) (Bun.glo 26 rfl)) rfl (da_cons (de_var (pv 2)) (da_cons (de_var (pv 0)) (da_nil) rfl) rfl) rfl rfl rfl) (dg_name (pg_name sc_order_of.nd rfl (by first | exact Or.inl rfl | exact Or.inr rfl) (by first | exact .inl rfl | exact .inr rfl))) rfl rfl rfl) (dss_nil))) (fun _ => rfl)) (dss_cons (ds_ret (de_const pe_non (fun _ => Rep.non))) (dss_nil))))))
def N_turn_at : List Str := ["spin", "hour", "found", "step"]
theorem sc_turn_at : FnScope N_turn_at ["spin", "hour"] (defScope (top 42)) := ⟨rfl, rfl, rfl, by decide +kernel, rfl, by decide +kernel, by decide +kernel⟩
def S_turn_at : SemS := sSeq (sDrop (dCall 1 F_check_turn (dCons (dV 0) (dNil)))) (sSeq (sDrop (dCall 4 F_check_number (dCons (dC (.str "hour")) (dCons (dV 1) (dCons (dC (.int 0)) (dCons (dC (.int 99)) (dNil))))))) (sSeq (sAsg (dCall 0 F_no_turn dNil) (tgName 2)) (sSeq (sFor (dRng (dCons (dV 1) dNil)) (tgName 3) (sSeq (sAsg (dCall 2 F_then (dCons (dV 2) (dCons (dV 0) (dNil)))) (tgName 2)) (sNext))) (sSeq (sRet (dV 2)) (sNext)))))
def F_turn_at : Fn := runB 4 (S_turn_at)
theorem ok_turn_at (B : Bn) : B.Ok ("turn_at", none) 7 2 (F_turn_at) := by
  obtain ⟨fd, F⟩ := B.say.def_ (d := dd_turn_at) 35 rfl
  exact Bun.ok (k := 6) (N := N_turn_at) (ps := ["spin", "hour"]) (S := S_turn_at) F sc_turn_at (fun _ _ _ _ _ _ us hl => match us, hl with | [_, _], _ => rfl) fun da me cdv A outer s H E i => (show DSs (B.G da me) (B.X N_turn_at dd_turn_at.qual dd_turn_at.scope (He.fAd B.K ("turn_at", none)) cdv A outer s H E) (defBody (top 42)) (S_turn_at) from dss_cons (ds_expr (de_call (Bun.call (ok_check_turn B) i (by decide) (Bun.glo 20 rfl)) rfl (da_cons (de_var (pv 0)) (da_nil) rfl) rfl rfl rfl) rfl) (dss_cons (ds_expr (de_call (Bun.call (ok_check_number B) i (by decide) (Bun.glo 2 rfl)) rfl (da_cons (de_const pe_str (fun _ => Rep.str _)) (da_cons (de_var (pv 1)) (da_cons (de_const pe_int (fun _ => Rep.int _)) (da_cons (de_int (He.int_ok B.hIn B.hNs (B.say.fact 62 rfl)) rfl) (da_nil) rfl) rfl) rfl) rfl) rfl rfl rfl) rfl) (dss_cons (ds_asg (de_call0 (Bun.call (ok_no_turn B) i (by decide) (Bun.glo 21 rfl)) rfl rfl) (dg_name (pg_name sc_turn_at.nd rfl (by first | exact Or.inl rfl | exact Or.inr rfl) (by first | exact .inl rfl | exact .inr rfl))) rfl rfl rfl) (dss_cons (ds_for PassesOwn.never rfl (di_range1 rfl (Bun.free 50 rfl) (de_var (pv 1)) rfl) (dg_name (pg_name sc_turn_at.nd rfl (by first | exact Or.inl rfl | exact Or.inr rfl) (by first | exact .inl rfl | exact .inr rfl))) (dss_cons (ds_asg (de_call (Bun.call (ok_then B) i (by decide) (Bun.glo 26 rfl)) rfl (da_cons (de_var (pv 2)) (da_cons (de_var (pv 0)) (da_nil) rfl) rfl) rfl rfl rfl) (dg_name (pg_name sc_turn_at.nd rfl (by first | exact Or.inl rfl | exact Or.inr rfl) (by first | exact .inl rfl | exact .inr rfl))) rfl rfl rfl) (dss_nil)) (fun _ => rfl)) (dss_cons (ds_ret (de_var (pv 2))) (dss_nil))))))
def N_hours_of_day : List Str := ["spin", "now", "many"]
theorem sc_hours_of_day : FnScope N_hours_of_day ["spin"] (defScope (top 43)) := ⟨rfl, rfl, rfl, by decide +kernel, rfl, by decide +kernel, by decide +kernel⟩
def S_hours_of_day : SemS := sSeq (sDrop (dCall 1 F_check_turn (dCons (dV 0) (dNil)))) (sSeq (sAsg (dV 0) (tgName 1)) (sSeq (sFor (dRng (dCons (dC (.int 1)) (dCons (dBin D.add (dC (.int 99)) (dC (.int 1))) dNil))) (tgName 2) (sSeq (sIf (dEqB eqT false (dV 1) (dCall 0 F_no_turn dNil)) (sSeq (sRet (dV 2)) (sNext)) (sNext)) (sSeq (sAsg (dCall 2 F_then (dCons (dV 1) (dCons (dV 0) (dNil)))) (tgName 1)) (sNext)))) (sSeq (sRet (dC .non)) (sNext))))
def F_hours_of_day : Fn := runB 3 (S_hours_of_day)
theorem ok_hours_of_day (B : Bn) : B.Ok ("hours_of_day", none) 7 1 (F_hours_of_day) := by
  obtain ⟨fd, F⟩ := B.say.def_ (d := dd_hours_of_day) 36 rfl
  exact Bun.ok (k := 6) (N := N_hours_of_day) (ps := ["spin"]) (S := S_hours_of_day) F sc_hours_of_day (fun _ _ _ _ _ _ us hl => match us, hl with | [_], _ => rfl) fun da me cdv A outer s H E i => (show DSs (B.G da me) (B.X N_hours_of_day dd_hours_of_day.qual dd_hours_of_day.scope (He.fAd B.K ("hours_of_day", none)) cdv A outer s H E) (defBody (top 43)) (S_hours_of_day) from dss_cons (ds_expr (de_call (Bun.call (ok_check_turn B) i (by decide) (Bun.glo 20 rfl)) rfl (da_cons (de_var (pv 0)) (da_nil) rfl) rfl rfl rfl) rfl) (dss_cons (ds_asg (de_var (pv 0)) (dg_name (pg_name sc_hours_of_day.nd rfl (by first | exact Or.inl rfl | exact Or.inr rfl) (by first | exact .inl rfl | exact .inr rfl))) rfl rfl rfl) (dss_cons (ds_for PassesOwn.never rfl (di_range2 rfl (Bun.free 50 rfl) (de_const pe_int (fun _ => Rep.int _)) (de_op op_addD rd_add (DE.toR (de_int (He.int_ok B.hIn B.hNs (B.say.fact 62 rfl)) rfl)) (DE.toR (de_const pe_int (fun _ => Rep.int _)))) rfl rfl) (dg_name (pg_name sc_hours_of_day.nd rfl (by first | exact Or.inl rfl | exact Or.inr rfl) (by first | exact .inl rfl | exact .inr rfl))) (dss_cons (ds_if (dt_eq rfl Bun.kit (Bun.eqOk (eqRow B (by decide)) i) i.room.units (DE.toR (de_var (pv 1))) (de_call0 (Bun.call (ok_no_turn B) i (by decide) (Bun.glo 21 rfl)) rfl rfl) rfl) (dss_cons (ds_ret (de_var (pv 2))) (dss_nil)) (dss_nil)) (dss_cons (ds_asg (de_call (Bun.call (ok_then B) i (by decide) (Bun.glo 26 rfl)) rfl (da_cons (de_var (pv 1)) (da_cons (de_var (pv 0)) (da_nil) rfl) rfl) rfl rfl rfl) (dg_name (pg_name sc_hours_of_day.nd rfl (by first | exact Or.inl rfl | exact Or.inr rfl) (by first | exact .inl rfl | exact .inr rfl))) rfl rfl rfl) (dss_nil))) (fun _ => rfl)) (dss_cons (ds_ret (de_const pe_non (fun _ => Rep.non))) (dss_nil)))))
def N__law_number : List Str := ["script", "index", "cell", "turn", "rest", "step", "blend"]
theorem sc__law_number : FnScope N__law_number ["script", "index"] (defScope (top 45)) := ⟨rfl, rfl, rfl, by decide +kernel, rfl, by decide +kernel, by decide +kernel⟩
def S__law_number (ns : List Int) : SemS := sSeq (sAsg (dIf (dNeS ns (dV 0)) (dTup (dCons (dIxS ns (dV 0) (dBin D.mod (dV 1) (dLenS ns (dV 0)))) (dCons (dBin D.fdiv (dV 1) (dLenS ns (dV 0))) (dNil)))) (dTup (dCons (dC (.int 12345)) (dCons (dC (.int 0)) (dNil))))) (tgTup 2 (tgsCons (tgName 2) (tgsCons (tgName 3) (tgsNil))))) (sSeq (sAsg (dIf (dBinB cLt (dV 3) (dC (.int 60))) (dBin D.sub (dV 2) (dPow 10 18)) (dC (.int 0))) (tgName 4)) (sSeq (sFor (dRng (dCons (dBin D.mod (dBi bInt (dCons (dV 3) (dNil))) (dC (.int 60))) dNil)) (tgName 5) (sSeq (sAsg (dBin D.fdiv (dV 4) (dC (.int 1009))) (tgName 4)) (sNext))) (sSeq (sIf (dBinB cGtA (dV 4) (dC (.int 0))) (sSeq (sRet (dBin D.mod (dBi bInt (dCons (dV 4) (dNil))) (dC (.int 1009)))) (sNext)) (sNext)) (sSeq (sAsg (dBin D.mod (dBin D.add (dBin D.mul (dBi bInt (dCons (dBin D.add (dV 2) (dBin D.mul (dC (.int 977)) (dV 1))) (dNil))) (dC (.int 48271))) (dBin D.mul (dC (.int 31)) (dLenS ns (dV 0)))) (dC (.int 2147483647))) (tgName 6)) (sSeq (sAsg (dBin D.mod (dBin D.add (dBin D.mul (dV 6) (dV 6)) (dBin D.mul (dC (.int 40503)) (dV 1))) (dC (.int 2147483629))) (tgName 6)) (sSeq (sRet (dBi bInt (dCons (dBin D.mod (dBin D.add (dBin D.mul (dV 6) (dC (.int 69621))) (dBin D.fdiv (dV 6) (dC (.int 977)))) (dC (.int 2147483587))) (dNil)))) (sNext)))))))
def F__law_number (ns : List Int) : Fn := runB 7 (S__law_number ns)
theorem ok__law_number (B : Bn) : B.Ok ("_law_number", none) 1 2 (F__law_number B.ns) := by
  obtain ⟨fd, F⟩ := B.say.def_ (d := dd__law_number) 37 rfl
  exact Bun.ok (k := 0) (N := N__law_number) (ps := ["script", "index"]) (S := S__law_number B.ns) F sc__law_number (fun _ _ _ _ _ _ us hl => match us, hl with | [_, _], _ => rfl) fun da me cdv A outer s H E i => (show DSs (B.G da me) (B.X N__law_number dd__law_number.qual dd__law_number.scope (He.fAd B.K ("_law_number", none)) cdv A outer s H E) (defBody (top 45)) (S__law_number B.ns) from dss_cons (ds_asg (de_if (dt_neS rfl rfl i.room.units (de_var (pv 0)) rfl) (de_tup (da_cons (de_ixS rfl rfl (de_var (pv 0)) (de_op op_mod rd_mod (DE.toR (de_var (pv 1))) (DE.toR (de_lenS rfl rfl rfl (Bun.free 44 rfl) (de_var (pv 0)) rfl rfl))) (fun _ _ => rfl)) (da_cons (de_op op_fdivW rd_fdiv (DE.toR (de_var (pv 1))) (DE.toR (de_lenS rfl rfl rfl (Bun.free 44 rfl) (de_var (pv 0)) rfl rfl))) (da_nil) rfl) rfl)) (de_tup (da_cons (de_const pe_int (fun _ => Rep.int _)) (da_cons (de_const pe_int (fun _ => Rep.int _)) (da_nil) rfl) rfl))) (dg_tup rfl rfl (dgs_cons (dg_name (pg_name sc__law_number.nd rfl (by first | exact Or.inl rfl | exact Or.inr rfl) (by first | exact .inl rfl | exact .inr rfl))) (dgs_cons (dg_name (pg_name sc__law_number.nd rfl (by first | exact Or.inl rfl | exact Or.inr rfl) (by first | exact .inl rfl | exact .inr rfl))) (dgs_nil) rfl) rfl) rfl rfl) rfl rfl rfl) (dss_cons (ds_asg (de_if (dc_test op_lt rd_lt (DE.toR (de_var (pv 3))) (DE.toR (de_const pe_int (fun _ => Rep.int _))) rfl) (de_op op_sub rd_sub (DE.toR (de_var (pv 2))) (DE.toR (de_pow ⟨by decide, by decide, by decide⟩))) (de_const pe_int (fun _ => Rep.int _))) (dg_name (pg_name sc__law_number.nd rfl (by first | exact Or.inl rfl | exact Or.inr rfl) (by first | exact .inl rfl | exact .inr rfl))) rfl rfl rfl) (dss_cons (ds_for PassesOwn.never rfl (di_range1 rfl (Bun.free 50 rfl) (de_op op_mod rd_mod (DE.toR (de_callT call_int1 bInt_ok rfl (Bun.free 56 rfl) (by decide +kernel) (dra_cons (DE.toR (de_var (pv 3))) (dra_nil) rfl) (by decide) rfl rfl rfl)) (DE.toR (de_const pe_int (fun _ => Rep.int _)))) rfl) (dg_name (pg_name sc__law_number.nd rfl (by first | exact Or.inl rfl | exact Or.inr rfl) (by first | exact .inl rfl | exact .inr rfl))) (dss_cons (ds_asg (de_op op_fdivW rd_fdiv (DE.toR (de_var (pv 4))) (DE.toR (de_const pe_int (fun _ => Rep.int _)))) (dg_name (pg_name sc__law_number.nd rfl (by first | exact Or.inl rfl | exact Or.inr rfl) (by first | exact .inl rfl | exact .inr rfl))) rfl rfl rfl) (dss_nil)) (fun _ => rfl)) (dss_cons (ds_if (dc_test (op_gtA i.room.units0) rd_gtA (DE.toR (de_var (pv 4))) (DE.toR (de_const pe_int (fun _ => Rep.int _))) rfl) (dss_cons (ds_ret (de_op op_mod rd_mod (DE.toR (de_callT call_int1 bInt_ok rfl (Bun.free 56 rfl) (by decide +kernel) (dra_cons (DE.toR (de_var (pv 4))) (dra_nil) rfl) (by decide) rfl rfl rfl)) (DE.toR (de_const pe_int (fun _ => Rep.int _))))) (dss_nil)) (dss_nil)) (dss_cons (ds_asg (de_op op_mod rd_mod (DE.toR (de_op op_addD rd_add (DE.toR (de_op op_mulX rd_mul (DE.toR (de_callT call_int1 bInt_ok rfl (Bun.free 56 rfl) (by decide +kernel) (dra_cons (DE.toR (de_op op_addD rd_add (DE.toR (de_var (pv 2))) (DE.toR (de_op op_mulX rd_mul (DE.toR (de_const pe_int (fun _ => Rep.int _))) (DE.toR (de_var (pv 1))))))) (dra_nil) rfl) (by decide) rfl rfl rfl)) (DE.toR (de_const pe_int (fun _ => Rep.int _))))) (DE.toR (de_op op_mulX rd_mul (DE.toR (de_const pe_int (fun _ => Rep.int _))) (DE.toR (de_lenS rfl rfl rfl (Bun.free 44 rfl) (de_var (pv 0)) rfl rfl)))))) (DE.toR (de_const pe_int (fun _ => Rep.int _)))) (dg_name (pg_name sc__law_number.nd rfl (by first | exact Or.inl rfl | exact Or.inr rfl) (by first | exact .inl rfl | exact .inr rfl))) rfl rfl rfl) (dss_cons (ds_asg (de_op op_mod rd_mod (DE.toR (de_op op_addD rd_add (DE.toR (de_op op_mulX rd_mul (DE.toR (de_var (pv 6))) (DE.toR (de_var (pv 6))))) (DE.toR (de_op op_mulX rd_mul (DE.toR (de_const pe_int (fun _ => Rep.int _))) (DE.toR (de_var (pv 1))))))) (DE.toR (de_const pe_int (fun _ => Rep.int _)))) (dg_name (pg_name sc__law_number.nd rfl (by first | exact Or.inl rfl | exact Or.inr rfl) (by first | exact .inl rfl | exact .inr rfl))) rfl rfl rfl) (dss_cons (ds_ret (de_callT call_int1 bInt_ok rfl (Bun.free 56 rfl) (by decide +kernel) (dra_cons (DE.toR (de_op op_mod rd_mod (DE.toR (de_op op_addD rd_add (DE.toR (de_op op_mulX rd_mul (DE.toR (de_var (pv 6))) (DE.toR (de_const pe_int (fun _ => Rep.int _))))) (DE.toR (de_op op_fdivW rd_fdiv (DE.toR (de_var (pv 6))) (DE.toR (de_const pe_int (fun _ => Rep.int _))))))) (DE.toR (de_const pe_int (fun _ => Rep.int _))))) (dra_nil) rfl) (by decide) rfl rfl rfl)) (dss_nil))))))))
def N__law_take : List Str := ["draw", "many"]
theorem sc__law_take : FnScope N__law_take ["draw", "many"] (defScope (top 46)) := ⟨rfl, rfl, rfl, by decide +kernel, rfl, by decide +kernel, by decide +kernel⟩
def S__law_take (ns : List Int) : SemS := sSeq (sInc 0) (sSeq (sRet (dBin D.mod (dBi bInt (dCons (dCall 2 (F__law_number ns) (dCons (dDrw0 (dV 0)) (dCons (dBi bInt (dCons (dDrw1 (dV 0)) (dNil))) (dNil)))) (dNil))) (dV 1))) (sNext))
def F__law_take (ns : List Int) : Fn := runB 2 (S__law_take ns)
theorem ok__law_take (B : Bn) : B.Ok ("_law_take", none) 2 2 (F__law_take B.ns) := by
  obtain ⟨fd, F⟩ := B.say.def_ (d := dd__law_take) 38 rfl
  exact Bun.ok (k := 1) (N := N__law_take) (ps := ["draw", "many"]) (S := S__law_take B.ns) F sc__law_take (fun _ _ _ _ _ _ us hl => match us, hl with | [_, _], _ => rfl) fun da me cdv A outer s H E i => (show DSs (B.G da me) (B.X N__law_take dd__law_take.qual dd__law_take.scope (He.fAd B.K ("_law_take", none)) cdv A outer s H E) (defBody (top 46)) (S__law_take B.ns) from dss_cons (ds_inc (pv 0)) (dss_cons (ds_ret (de_op op_mod rd_mod (DE.toR (de_callT call_int1 bInt_ok rfl (Bun.free 56 rfl) (by decide +kernel) (dra_cons (DE.toR (de_call (Bun.call (ok__law_number B) i (by decide) (Bun.glo 34 rfl)) rfl (da_cons (de_drw0 rfl (de_var (pv 0)) (fun _ _ => rfl)) (da_cons (de_callT call_int1 bInt_ok rfl (Bun.free 56 rfl) (by decide +kernel) (dra_cons (DE.toR (de_drw1 rfl (de_var (pv 0)) (fun _ _ => rfl))) (dra_nil) rfl) (by decide) rfl rfl rfl) (da_nil) rfl) rfl) rfl rfl rfl)) (dra_nil) rfl) (by decide) rfl rfl rfl)) (DE.toR (de_var (pv 1))))) (dss_nil)))
def N__law_pick : List Str := ["draw", "items"]
theorem sc__law_pick : FnScope N__law_pick ["draw", "items"] (defScope (top 47)) := ⟨rfl, rfl, rfl, by decide +kernel, rfl, by decide +kernel, by decide +kernel⟩
def S__law_pick (ns : List Int) : SemS := sSeq (sRet (dBin D.ix (dV 1) (dCall 2 (F__law_take ns) (dCons (dV 0) (dCons (dBi bLen (dCons (dV 1) (dNil))) (dNil)))))) (sNext)
def F__law_pick (ns : List Int) : Fn := runB 2 (S__law_pick ns)
theorem ok__law_pick (B : Bn) : B.Ok ("_law_pick", none) 3 2 (F__law_pick B.ns) := by
  obtain ⟨fd, F⟩ := B.say.def_ (d := dd__law_pick) 39 rfl
  exact Bun.ok (k := 2) (N := N__law_pick) (ps := ["draw", "items"]) (S := S__law_pick B.ns) F sc__law_pick (fun _ _ _ _ _ _ us hl => match us, hl with | [_, _], _ => rfl) fun da me cdv A outer s H E i => (show DSs (B.G da me) (B.X N__law_pick dd__law_pick.qual dd__law_pick.scope (He.fAd B.K ("_law_pick", none)) cdv A outer s H E) (defBody (top 47)) (S__law_pick B.ns) from dss_cons (ds_ret (de_ix rfl (DE.toR (de_var (pv 1))) (DE.toR (de_call (Bun.call (ok__law_take B) i (by decide) (Bun.glo 35 rfl)) rfl (da_cons (de_var (pv 0)) (da_cons (de_callB call_len bLen_ok rfl (Bun.free 44 rfl) (by decide +kernel) (dra_cons (DE.toR (de_var (pv 1))) (dra_nil) rfl) (by decide) rfl rfl rfl) (da_nil) rfl) rfl) rfl rfl rfl)) (fun _ _ => rfl))) (dss_nil))
def N__law_sky : List Str := ["draw", "rows", "row", "one"]
theorem sc__law_sky : FnScope N__law_sky ["draw"] (defScope (top 48)) := ⟨rfl, rfl, rfl, by decide +kernel, rfl, by decide +kernel, by decide +kernel⟩
def S__law_sky (ns : List Int) : SemS := sSeq (sAsg (dLst (dCons (dTup (dCons (dC (.int 1)) (dCons (dC (.int 0)) (dCons (dC (.int 0)) (dNil))))) (dCons (dTup (dCons (dC (.int 0)) (dCons (dC (.int 1)) (dCons (dC (.int 0)) (dNil))))) (dCons (dTup (dCons (dC (.int 0)) (dCons (dC (.int 0)) (dCons (dC (.int 1)) (dNil))))) (dCons (dTup (dCons (dC (.int 1)) (dCons (dC (.int 2)) (dCons (dC (.int 2)) (dNil))))) (dCons (dTup (dCons (dC (.int 2)) (dCons (dC (.int 1)) (dCons (dC (.int 2)) (dNil))))) (dCons (dTup (dCons (dC (.int 2)) (dCons (dC (.int 2)) (dCons (dC (.int 1)) (dNil))))) (dCons (dTup (dCons (dC (.int 3)) (dCons (dC (.int 0)) (dCons (dC (.int 4)) (dNil))))) (dCons (dTup (dCons (dC (.int 0)) (dCons (dC (.int 3)) (dCons (dC (.int 4)) (dNil))))) (dCons (dTup (dCons (dC (.int 4)) (dCons (dC (.int 3)) (dCons (dC (.int 0)) (dNil))))) (dCons (dTup (dCons (dC (.int 2)) (dCons (dC (.int 3)) (dCons (dC (.int 6)) (dNil))))) (dCons (dTup (dCons (dC (.int 6)) (dCons (dC (.int 2)) (dCons (dC (.int 3)) (dNil))))) (dCons (dTup (dCons (dC (.int 1)) (dCons (dC (.int 4)) (dCons (dC (.int 8)) (dNil))))) (dCons (dTup (dCons (dC (.int 1)) (dCons (dC (.int 1)) (dCons (dC (.int 0)) (dNil))))) (dCons (dTup (dCons (dC (.int 1)) (dCons (dC (.int 1)) (dCons (dC (.int 1)) (dNil))))) (dNil)))))))))))))))) (tgName 1)) (sSeq (sAsg (dIf (dBinB cGtA (dCall 2 (F__law_take ns) (dCons (dV 0) (dCons (dC (.int 8)) (dNil)))) (dC (.int 0))) (dBin D.ix (dV 1) (dCall 2 (F__law_take ns) (dCons (dV 0) (dCons (dC (.int 12)) (dNil))))) (dCall 2 (F__law_pick ns) (dCons (dV 0) (dCons (dV 1) (dNil))))) (tgName 2)) (sSeq (sRet (dBi bTup (dCons (dLc [3] (dItems (dV 2)) (tgName 3) (dTrue) (dIf (dEqB eqT false (dCall 2 (F__law_take ns) (dCons (dV 0) (dCons (dC (.int 2)) (dNil)))) (dC (.int 0))) (dV 3) (dBin D.sub (dC (.int 0)) (dV 3)))) (dNil)))) (sNext)))
def F__law_sky (ns : List Int) : Fn := runB 4 (S__law_sky ns)
theorem ok__law_sky (B : Bn) : B.Ok ("_law_sky", none) 4 1 (F__law_sky B.ns) := by
  obtain ⟨fd, F⟩ := B.say.def_ (d := dd__law_sky) 40 rfl
  exact Bun.ok (k := 3) (N := N__law_sky) (ps := ["draw"]) (S := S__law_sky B.ns) F sc__law_sky (fun _ _ _ _ _ _ us hl => match us, hl with | [_], _ => rfl) fun da me cdv A outer s H E i => (show DSs (B.G da me) (B.X N__law_sky dd__law_sky.qual dd__law_sky.scope (He.fAd B.K ("_law_sky", none)) cdv A outer s H E) (defBody (top 48)) (S__law_sky B.ns) from dss_cons (ds_asg (de_lst (da_cons (de_tup (da_cons (de_const pe_int (fun _ => Rep.int _)) (da_cons (de_const pe_int (fun _ => Rep.int _)) (da_cons (de_const pe_int (fun _ => Rep.int _)) (da_nil) rfl) rfl) rfl)) (da_cons (de_tup (da_cons (de_const pe_int (fun _ => Rep.int _)) (da_cons (de_const pe_int (fun _ => Rep.int _)) (da_cons (de_const pe_int (fun _ => Rep.int _)) (da_nil) rfl) rfl) rfl)) (da_cons (de_tup (da_cons (de_const pe_int (fun _ => Rep.int _)) (da_cons (de_const pe_int (fun _ => Rep.int _)) (da_cons (de_const pe_int (fun _ => Rep.int _)) (da_nil) rfl) rfl) rfl)) (da_cons (de_tup (da_cons (de_const pe_int (fun _ => Rep.int _)) (da_cons (de_const pe_int (fun _ => Rep.int _)) (da_cons (de_const pe_int (fun _ => Rep.int _)) (da_nil) rfl) rfl) rfl)) (da_cons (de_tup (da_cons (de_const pe_int (fun _ => Rep.int _)) (da_cons (de_const pe_int (fun _ => Rep.int _)) (da_cons (de_const pe_int (fun _ => Rep.int _)) (da_nil) rfl) rfl) rfl)) (da_cons (de_tup (da_cons (de_const pe_int (fun _ => Rep.int _)) (da_cons (de_const pe_int (fun _ => Rep.int _)) (da_cons (de_const pe_int (fun _ => Rep.int _)) (da_nil) rfl) rfl) rfl)) (da_cons (de_tup (da_cons (de_const pe_int (fun _ => Rep.int _)) (da_cons (de_const pe_int (fun _ => Rep.int _)) (da_cons (de_const pe_int (fun _ => Rep.int _)) (da_nil) rfl) rfl) rfl)) (da_cons (de_tup (da_cons (de_const pe_int (fun _ => Rep.int _)) (da_cons (de_const pe_int (fun _ => Rep.int _)) (da_cons (de_const pe_int (fun _ => Rep.int _)) (da_nil) rfl) rfl) rfl)) (da_cons (de_tup (da_cons (de_const pe_int (fun _ => Rep.int _)) (da_cons (de_const pe_int (fun _ => Rep.int _)) (da_cons (de_const pe_int (fun _ => Rep.int _)) (da_nil) rfl) rfl) rfl)) (da_cons (de_tup (da_cons (de_const pe_int (fun _ => Rep.int _)) (da_cons (de_const pe_int (fun _ => Rep.int _)) (da_cons (de_const pe_int (fun _ => Rep.int _)) (da_nil) rfl) rfl) rfl)) (da_cons (de_tup (da_cons (de_const pe_int (fun _ => Rep.int _)) (da_cons (de_const pe_int (fun _ => Rep.int _)) (da_cons (de_const pe_int (fun _ => Rep.int _)) (da_nil) rfl) rfl) rfl)) (da_cons (de_tup (da_cons (de_const pe_int (fun _ => Rep.int _)) (da_cons (de_const pe_int (fun _ => Rep.int _)) (da_cons (de_const pe_int (fun _ => Rep.int _)) (da_nil) rfl) rfl) rfl)) (da_cons (de_tup (da_cons (de_const pe_int (fun _ => Rep.int _)) (da_cons (de_const pe_int (fun _ => Rep.int _)) (da_cons (de_const pe_int (fun _ => Rep.int _)) (da_nil) rfl) rfl) rfl)) (da_cons (de_tup (da_cons (de_const pe_int (fun _ => Rep.int _)) (da_cons (de_const pe_int (fun _ => Rep.int _)) (da_cons (de_const pe_int (fun _ => Rep.int _)) (da_nil) rfl) rfl) rfl)) (da_nil) rfl) rfl) rfl) rfl) rfl) rfl) rfl) rfl) rfl) rfl) rfl) rfl) rfl) rfl)) (dg_name (pg_name sc__law_sky.nd rfl (by first | exact Or.inl rfl | exact Or.inr rfl) (by first | exact .inl rfl | exact .inr rfl))) rfl rfl rfl) (dss_cons (ds_asg (de_if (dc_test (op_gtA i.room.units0) rd_gtA (DE.toR (de_call (Bun.call (ok__law_take B) i (by decide) (Bun.glo 35 rfl)) rfl (da_cons (de_var (pv 0)) (da_cons (de_const pe_int (fun _ => Rep.int _)) (da_nil) rfl) rfl) rfl rfl rfl)) (DE.toR (de_const pe_int (fun _ => Rep.int _))) rfl) (de_ix rfl (DE.toR (de_var (pv 1))) (DE.toR (de_call (Bun.call (ok__law_take B) i (by decide) (Bun.glo 35 rfl)) rfl (da_cons (de_var (pv 0)) (da_cons (de_const pe_int (fun _ => Rep.int _)) (da_nil) rfl) rfl) rfl rfl rfl)) (fun _ _ => rfl)) (de_call (Bun.call (ok__law_pick B) i (by decide) (Bun.glo 36 rfl)) rfl (da_cons (de_var (pv 0)) (da_cons (de_var (pv 1)) (da_nil) rfl) rfl) rfl rfl rfl)) (dg_name (pg_name sc__law_sky.nd rfl (by first | exact Or.inl rfl | exact Or.inr rfl) (by first | exact .inl rfl | exact .inr rfl))) rfl rfl rfl) (dss_cons (ds_ret (de_callT call_tuple_of bTup_ok rfl (Bun.free 51 rfl) (by decide +kernel) (dra_cons (DE.toR (de_lc rfl sc__law_sky.nd (di_seq rfl (de_var (pv 2))) (blkOk_by (own := [("one", 3)]) rfl) (fun _ _ _ _ _ => dg_name (pg_name sc__law_sky.nd rfl (by first | exact Or.inl rfl | exact Or.inr rfl) (by first | exact .inl rfl | exact .inr rfl))) (fun _ _ _ _ _ => dts_nil) (fun _ _ _ _ _ => de_if (dt_eq rfl Bun.kit (Bun.eqOk (eqRow B (by decide)) i.blk) i.blk.room.units (DE.toR (de_call (Bun.call (ok__law_take B) i.blk (by decide) (Bun.glo 35 rfl)) rfl (da_cons (de_var (pv 0)) (da_cons (de_const pe_int (fun _ => Rep.int _)) (da_nil) rfl) rfl) rfl rfl rfl)) (de_const pe_int (fun _ => Rep.int _)) rfl) (de_var (pv 3)) (de_op op_sub rd_sub (DE.toR (de_const pe_int (fun _ => Rep.int _))) (DE.toR (de_var (pv 3))))) (by decide) (fun _ => rfl) rfl)) (dra_nil) rfl) (by decide) rfl rfl rfl)) (dss_nil))))
def N__law_by : List Str := ["draw", "found", "again"]
theorem sc__law_by : FnScope N__law_by ["draw"] (defScope (top 49)) := ⟨rfl, rfl, rfl, by decide +kernel, rfl, by decide +kernel, by decide +kernel⟩
def S__law_by (ns : List Int) : SemS := sSeq (sAsg (dBi bTup (dCons (dLc [2] (dRng (dCons (dC (.int 4)) dNil)) (tgName 2) (dTrue) (dBin D.sub (dCall 2 (F__law_take ns) (dCons (dV 0) (dCons (dC (.int 5)) (dNil)))) (dC (.int 2)))) (dNil))) (tgName 1)) (sSeq (sRet (dIf (dEqB eqT true (dV 1) (dTup (dCons (dC (.int 0)) (dCons (dC (.int 0)) (dCons (dC (.int 0)) (dCons (dC (.int 0)) (dNil))))))) (dV 1) (dTup (dCons (dC (.int 1)) (dCons (dC (.int 0)) (dCons (dC (.int 1)) (dCons (dC (.int 0)) (dNil)))))))) (sNext))
def F__law_by (ns : List Int) : Fn := runB 3 (S__law_by ns)
theorem ok__law_by (B : Bn) : B.Ok ("_law_by", none) 3 1 (F__law_by B.ns) := by
  obtain ⟨fd, F⟩ := B.say.def_ (d := dd__law_by) 41 rfl
  exact Bun.ok (k := 2) (N := N__law_by) (ps := ["draw"]) (S := S__law_by B.ns) F sc__law_by (fun _ _ _ _ _ _ us hl => match us, hl with | [_], _ => rfl) fun da me cdv A outer s H E i => (show DSs (B.G da me) (B.X N__law_by dd__law_by.qual dd__law_by.scope (He.fAd B.K ("_law_by", none)) cdv A outer s H E) (defBody (top 49)) (S__law_by B.ns) from dss_cons (ds_asg (de_callT call_tuple_of bTup_ok rfl (Bun.free 51 rfl) (by decide +kernel) (dra_cons (DE.toR (de_lc rfl sc__law_by.nd (di_range1 rfl (Bun.free 50 rfl) (de_const pe_int (fun _ => Rep.int _)) rfl) (blkOk_by (own := [("again", 2)]) rfl) (fun _ _ _ _ _ => dg_name (pg_name sc__law_by.nd rfl (by first | exact Or.inl rfl | exact Or.inr rfl) (by first | exact .inl rfl | exact .inr rfl))) (fun _ _ _ _ _ => dts_nil) (fun _ _ _ _ _ => de_op op_sub rd_sub (DE.toR (de_call (Bun.call (ok__law_take B) i.blk (by decide) (Bun.glo 35 rfl)) rfl (da_cons (de_var (pv 0)) (da_cons (de_const pe_int (fun _ => Rep.int _)) (da_nil) rfl) rfl) rfl rfl rfl)) (DE.toR (de_const pe_int (fun _ => Rep.int _)))) (by decide) (fun _ => rfl) rfl)) (dra_nil) rfl) (by decide) rfl rfl rfl) (dg_name (pg_name sc__law_by.nd rfl (by first | exact Or.inl rfl | exact Or.inr rfl) (by first | exact .inl rfl | exact .inr rfl))) rfl rfl rfl) (dss_cons (ds_ret (de_if (dt_ne rfl Bun.kit (Bun.eqOk (eqRow B (by decide)) i) i.room.units (DE.toR (de_var (pv 1))) (de_tup (da_cons (de_const pe_int (fun _ => Rep.int _)) (da_cons (de_const pe_int (fun _ => Rep.int _)) (da_cons (de_const pe_int (fun _ => Rep.int _)) (da_cons (de_const pe_int (fun _ => Rep.int _)) (da_nil) rfl) rfl) rfl) rfl)) rfl) (de_var (pv 1)) (de_tup (da_cons (de_const pe_int (fun _ => Rep.int _)) (da_cons (de_const pe_int (fun _ => Rep.int _)) (da_cons (de_const pe_int (fun _ => Rep.int _)) (da_cons (de_const pe_int (fun _ => Rep.int _)) (da_nil) rfl) rfl) rfl) rfl)))) (dss_nil)))
def N__law_glass : List Str := ["direction", "half", "row", "number"]
theorem sc__law_glass : FnScope N__law_glass ["direction"] (defScope (top 50)) := ⟨rfl, rfl, rfl, by decide +kernel, rfl, by decide +kernel, by decide +kernel⟩
def S__law_glass : SemS := sSeq (sAsg (dCall 1 F_turn_by (dCons (dBin D.add (dTup (dCons (dC (.int 0)) (dNil))) (dV 0)) (dNil))) (tgName 1)) (sSeq (sRet (dMake .Turn 2 FI_Turn (dCons (dLc [2] (dItems (dFld "rows" (dV 1))) (tgName 2) (dTrue) (dBi bTup (dCons (dLc [3] (dItems (dV 2)) (tgName 3) (dTrue) (dBin D.sub (dC (.int 0)) (dV 3))) (dNil)))) (dCons (dFld "below" (dV 1)) (dNil))))) (sNext))
def F__law_glass : Fn := runB 4 (S__law_glass)
theorem ok__law_glass (B : Bn) : B.Ok ("_law_glass", none) 6 1 (F__law_glass) := by
  obtain ⟨fd, F⟩ := B.say.def_ (d := dd__law_glass) 42 rfl
  exact Bun.ok (k := 5) (N := N__law_glass) (ps := ["direction"]) (S := S__law_glass) F sc__law_glass (fun _ _ _ _ _ _ us hl => match us, hl with | [_], _ => rfl) fun da me cdv A outer s H E i => (show DSs (B.G da me) (B.X N__law_glass dd__law_glass.qual dd__law_glass.scope (He.fAd B.K ("_law_glass", none)) cdv A outer s H E) (defBody (top 50)) (S__law_glass) from dss_cons (ds_asg (de_call (Bun.call (ok_turn_by B) i (by decide) (Bun.glo 23 rfl)) rfl (da_cons (de_op op_addD rd_add (DE.toR (de_tup (da_cons (de_const pe_int (fun _ => Rep.int _)) (da_nil) rfl))) (DE.toR (de_var (pv 0)))) (da_nil) rfl) rfl rfl rfl) (dg_name (pg_name sc__law_glass.nd rfl (by first | exact Or.inl rfl | exact Or.inr rfl) (by first | exact .inl rfl | exact .inr rfl))) rfl rfl rfl) (dss_cons (ds_ret (de_make (Bun.make (ok_Turn___init__ B) i (by decide) rfl (Bun.glo 41 rfl) (B.say.fact 59 rfl) (B.say.fact 41 rfl)) rfl (da_cons (de_lc rfl sc__law_glass.nd (di_seq rfl (de_fld rfl (Bun.kit.cls) (de_var (pv 1)) rfl)) (blkOk_by (own := [("row", 2)]) rfl) (fun _ _ _ _ _ => dg_name (pg_name sc__law_glass.nd rfl (by first | exact Or.inl rfl | exact Or.inr rfl) (by first | exact .inl rfl | exact .inr rfl))) (fun _ _ _ _ _ => dts_nil) (fun _ _ _ _ _ => de_callT call_tuple_of bTup_ok rfl (Bun.free 51 rfl) (by decide +kernel) (dra_cons (DE.toR (de_lc rfl sc__law_glass.nd (di_seq rfl (de_var (pv 2))) (blkOk_by (own := [("number", 3)]) rfl) (fun _ _ _ _ _ => dg_name (pg_name sc__law_glass.nd rfl (by first | exact Or.inl rfl | exact Or.inr rfl) (by first | exact .inl rfl | exact .inr rfl))) (fun _ _ _ _ _ => dts_nil) (fun _ _ _ _ _ => de_op op_sub rd_sub (DE.toR (de_const pe_int (fun _ => Rep.int _))) (DE.toR (de_var (pv 3)))) (by decide) (fun _ => rfl) rfl)) (dra_nil) rfl) (by decide) rfl rfl rfl) (by decide) (fun _ => rfl) rfl) (da_cons (de_fld rfl (Bun.kit.cls) (de_var (pv 1)) rfl) (da_nil) rfl) rfl) rfl rfl rfl)) (dss_nil)))
def N_are_alike : List Str := ["one", "other", "late", "after", "mine", "theirs", "first", "second"]
theorem sc_are_alike : FnScope N_are_alike ["one", "other", "late", "after"] (defScope (top 24)) := ⟨rfl, rfl, rfl, by decide +kernel, rfl, by decide +kernel, by decide +kernel⟩
def S_are_alike : SemS := sSeq (sPar2 4 5 (dCall 2 F_dot (dCons (dV 0) (dCons (dV 1) (dNil)))) (dCall 2 F_dot (dCons (dV 2) (dCons (dV 3) (dNil))))) (sSeq (sIf (dOrB (dBinB cLt (dBin D.mul (dV 4) (dV 5)) (dC (.int 0))) (dEqB eqT true (dBin D.mul (dBin D.mul (dBin D.mul (dV 4) (dV 4)) (dCall 2 F_dot (dCons (dV 2) (dCons (dV 2) (dNil))))) (dCall 2 F_dot (dCons (dV 3) (dCons (dV 3) (dNil))))) (dBin D.mul (dBin D.mul (dV 5) (dV 5)) (dCall 2 F_size_of (dCons (dV 0) (dCons (dV 1) (dNil))))))) (sSeq (sRet (dC (.bl false))) (sNext)) (sNext)) (sSeq (sPar2 6 7 (dCall 2 F_ratio (dCons (dV 0) (dCons (dV 2) (dNil)))) (dCall 2 F_ratio (dCons (dV 1) (dCons (dV 3) (dNil))))) (sSeq (sIf (dOrB (dBinB cIs (dV 6) (dC .non)) (dBinB cIs (dV 7) (dC .non))) (sSeq (sRet (dC (.bl false))) (sNext)) (sNext)) (sSeq (sRet (dEq eqT false (dBin D.mul (dBin D.mul (dV 5) (dBin D.ix (dV 6) (dC (.int 0)))) (dBin D.ix (dV 7) (dC (.int 0)))) (dBin D.mul (dBin D.mul (dV 4) (dBin D.ix (dV 6) (dC (.int 1)))) (dBin D.ix (dV 7) (dC (.int 1)))))) (sNext)))))
def F_are_alike : Fn := runB 8 (S_are_alike)
theorem ok_are_alike (B : Bn) : B.Ok ("are_alike", none) 6 4 (F_are_alike) := by
  obtain ⟨fd, F⟩ := B.say.def_ (d := dd_are_alike) 18 rfl
  exact Bun.ok (k := 5) (N := N_are_alike) (ps := ["one", "other", "late", "after"]) (S := S_are_alike) F sc_are_alike (fun _ _ _ _ _ _ us hl => match us, hl with | [_, _, _, _], _ => rfl) fun da me cdv A outer s H E i => (show DSs (B.G da me) (B.X N_are_alike dd_are_alike.qual dd_are_alike.scope (He.fAd B.K ("are_alike", none)) cdv A outer s H E) (defBody (top 24)) (S_are_alike) from dss_cons (ds_par2 (ps_par (i := 4) (j := 5) rfl sc_are_alike.nd rfl rfl (by decide) rfl rfl (da_cons (de_call (Bun.call (ok_dot B) i (by decide) (Bun.glo 11 rfl)) rfl (da_cons (de_var (pv 0)) (da_cons (de_var (pv 1)) (da_nil) rfl) rfl) rfl rfl rfl) (da_cons (de_call (Bun.call (ok_dot B) i (by decide) (Bun.glo 11 rfl)) rfl (da_cons (de_var (pv 2)) (da_cons (de_var (pv 3)) (da_nil) rfl) rfl) rfl rfl rfl) (da_nil) rfl) rfl) rfl rfl)) (dss_cons (ds_if (PW.pt (dw_or (dc_test op_lt rd_lt (DE.toR (de_op op_mulX rd_mul (DE.toR (de_var (pv 4))) (DE.toR (de_var (pv 5))))) (DE.toR (de_const pe_int (fun _ => Rep.int _))) rfl) (dw_or1 (dt_ne rfl Bun.kit (Bun.eqOk (eqRow B (by decide)) i) i.room.units (DE.toR (de_op op_mulX rd_mul (DE.toR (de_op op_mulX rd_mul (DE.toR (de_op op_mulX rd_mul (DE.toR (de_var (pv 4))) (DE.toR (de_var (pv 4))))) (DE.toR (de_call (Bun.call (ok_dot B) i (by decide) (Bun.glo 11 rfl)) rfl (da_cons (de_var (pv 2)) (da_cons (de_var (pv 2)) (da_nil) rfl) rfl) rfl rfl rfl)))) (DE.toR (de_call (Bun.call (ok_dot B) i (by decide) (Bun.glo 11 rfl)) rfl (da_cons (de_var (pv 3)) (da_cons (de_var (pv 3)) (da_nil) rfl) rfl) rfl rfl rfl)))) (de_op op_mulX rd_mul (DE.toR (de_op op_mulX rd_mul (DE.toR (de_var (pv 5))) (DE.toR (de_var (pv 5))))) (DE.toR (de_call (Bun.call (ok_size_of B) i (by decide) (Bun.glo 19 rfl)) rfl (da_cons (de_var (pv 0)) (da_cons (de_var (pv 1)) (da_nil) rfl) rfl) rfl rfl rfl))) rfl)))) (dss_cons (ds_ret (de_const pe_bl (fun _ => Rep.bl _))) (dss_nil)) (dss_nil)) (dss_cons (ds_par2 (ps_par (i := 6) (j := 7) rfl sc_are_alike.nd rfl rfl (by decide) rfl rfl (da_cons (de_call (Bun.call (ok_ratio B) i (by decide) (Bun.glo 17 rfl)) rfl (da_cons (de_var (pv 0)) (da_cons (de_var (pv 2)) (da_nil) rfl) rfl) rfl rfl rfl) (da_cons (de_call (Bun.call (ok_ratio B) i (by decide) (Bun.glo 17 rfl)) rfl (da_cons (de_var (pv 1)) (da_cons (de_var (pv 3)) (da_nil) rfl) rfl) rfl rfl rfl) (da_nil) rfl) rfl) rfl rfl)) (dss_cons (ds_if (PW.pt (dw_or (dc_test op_isD rd_is (DE.toR (de_var (pv 6))) (DE.toR (de_const pe_non (fun _ => Rep.non))) rfl) (dw_or1 (dc_test op_isD rd_is (DE.toR (de_var (pv 7))) (DE.toR (de_const pe_non (fun _ => Rep.non))) rfl)))) (dss_cons (ds_ret (de_const pe_bl (fun _ => Rep.bl _))) (dss_nil)) (dss_nil)) (dss_cons (ds_ret (de_eq rfl Bun.kit (Bun.eqOk (eqRow B (by decide)) i) i.room.units (DE.toR (de_op op_mulX rd_mul (DE.toR (de_op op_mulX rd_mul (DE.toR (de_var (pv 5))) (DE.toR (de_ix rfl (DE.toR (de_var (pv 6))) (DE.toR (de_const pe_int (fun _ => Rep.int _))) (fun _ _ => rfl))))) (DE.toR (de_ix rfl (DE.toR (de_var (pv 7))) (DE.toR (de_const pe_int (fun _ => Rep.int _))) (fun _ _ => rfl))))) (de_op op_mulX rd_mul (DE.toR (de_op op_mulX rd_mul (DE.toR (de_var (pv 4))) (DE.toR (de_ix rfl (DE.toR (de_var (pv 6))) (DE.toR (de_const pe_int (fun _ => Rep.int _))) (fun _ _ => rfl))))) (DE.toR (de_ix rfl (DE.toR (de_var (pv 7))) (DE.toR (de_const pe_int (fun _ => Rep.int _))) (fun _ _ => rfl)))) rfl)) (dss_nil))))))
def N_found_between : List Str := ["one", "other", "late", "after", "hands", "above", "below", "up", "down", "first", "second", "whole", "found", "sign", "name", "third"]
theorem sc_found_between : FnScope N_found_between ["one", "other", "late", "after", "hands"] (defScope (top 36)) := ⟨rfl, rfl, rfl, by decide +kernel, rfl, by decide +kernel, by decide +kernel⟩
def S_found_between : SemS := sSeq (sIf (dOrB (dTru (dCall 2 F_is_on_line (dCons (dV 0) (dCons (dV 1) (dNil))))) (dOrB (dTru (dCall 2 F_is_on_line (dCons (dV 2) (dCons (dV 3) (dNil))))) (dNotB (dTru (dCall 4 F_are_alike (dCons (dV 0) (dCons (dV 1) (dCons (dV 2) (dCons (dV 3) (dNil)))))))))) (sSeq (sRet (dLst (dNil))) (sNext)) (sNext)) (sSeq (sAsg (dTup (dCons (dCall 2 F_ratio (dCons (dV 0) (dCons (dV 2) (dNil)))) (dCons (dCall 2 F_ratio (dCons (dV 1) (dCons (dV 3) (dNil)))) (dNil)))) (tgTup 2 (tgsCons (tgTup 2 (tgsCons (tgName 5) (tgsCons (tgName 6) (tgsNil)))) (tgsCons (tgTup 2 (tgsCons (tgName 7) (tgsCons (tgName 8) (tgsNil)))) (tgsNil))))) (sSeq (sPar3 9 10 11 (dCall 2 F_times (dCons (dBin D.mul (dV 5) (dV 8)) (dCons (dV 2) (dNil)))) (dCall 2 F_times (dCons (dBin D.mul (dV 7) (dV 6)) (dCons (dV 3) (dNil)))) (dBin D.mul (dV 6) (dV 8))) (sSeq (sOwn (dNil) 12) (sSeq (sFor (dItems (dTup (dCons (dTup (dCons (dC (.int 1)) (dCons (dC (.str "plain")) (dNil)))) (dCons (dTup (dCons (dUn D.neg (dC (.int 1))) (dCons (dC (.str "mirrored")) (dNil)))) (dNil))))) (tgTup 2 (tgsCons (tgName 13) (tgsCons (tgName 14) (tgsNil)))) (sSeq (sIf (dBinB cIn (dV 4) (dTup (dCons (dV 14) (dCons (dC (.str "either")) (dNil))))) (sSeq (sAsg (dCall 2 F_times (dCons (dV 13) (dCons (dCall 2 F_cross (dCons (dV 9) (dCons (dV 10) (dNil)))) (dNil)))) (tgName 15)) (sSeq (sApp 12 (dCall 3 F_turn_of (dCons (dTup (dCons (dV 0) (dCons (dV 1) (dCons (dCall 2 F_cross (dCons (dV 0) (dCons (dV 1) (dNil)))) (dNil))))) (dCons (dTup (dCons (dV 9) (dCons (dV 10) (dCons (dV 15) (dNil))))) (dCons (dV 11) (dNil)))))) (sNext))) (sNext)) (sNext))) (sSeq (sFrz 12 (sRet (dV 12))) (sNext))))))
def F_found_between : Fn := runB 16 (S_found_between)
theorem ok_found_between (B : Bn) : B.Ok ("found_between", none) 7 5 (F_found_between) := by
  obtain ⟨fd, F⟩ := B.say.def_ (d := dd_found_between) 31 rfl
  exact Bun.ok (k := 6) (N := N_found_between) (ps := ["one", "other", "late", "after", "hands"]) (S := S_found_between) F sc_found_between (fun _ _ _ _ _ _ us hl => match us, hl with | [_, _, _, _, _], _ => rfl) fun da me cdv A outer s H E i => (show DSs (B.G da me) (B.X N_found_between dd_found_between.qual dd_found_between.scope (He.fAd B.K ("found_between", none)) cdv A outer s H E) (defBody (top 36)) (S_found_between) from dss_cons (ds_if (PW.pt (dw_or (dt_tru rfl (DE.toR (de_call (Bun.call (ok_is_on_line B) i (by decide) (Bun.glo 15 rfl)) rfl (da_cons (de_var (pv 0)) (da_cons (de_var (pv 1)) (da_nil) rfl) rfl) rfl rfl rfl)) (fun _ => rfl)) (dw_or (dt_tru rfl (DE.toR (de_call (Bun.call (ok_is_on_line B) i (by decide) (Bun.glo 15 rfl)) rfl (da_cons (de_var (pv 2)) (da_cons (de_var (pv 3)) (da_nil) rfl) rfl) rfl rfl rfl)) (fun _ => rfl)) (dw_or1 (dt_not (dt_tru rfl (DE.toR (de_call (Bun.call (ok_are_alike B) i (by decide) (Bun.glo 18 rfl)) rfl (da_cons (de_var (pv 0)) (da_cons (de_var (pv 1)) (da_cons (de_var (pv 2)) (da_cons (de_var (pv 3)) (da_nil) rfl) rfl) rfl) rfl) rfl rfl rfl)) (fun _ => rfl))))))) (dss_cons (ds_ret (de_lst (da_nil))) (dss_nil)) (dss_nil)) (dss_cons (ds_asg (de_tup (da_cons (de_call (Bun.call (ok_ratio B) i (by decide) (Bun.glo 17 rfl)) rfl (da_cons (de_var (pv 0)) (da_cons (de_var (pv 2)) (da_nil) rfl) rfl) rfl rfl rfl) (da_cons (de_call (Bun.call (ok_ratio B) i (by decide) (Bun.glo 17 rfl)) rfl (da_cons (de_var (pv 1)) (da_cons (de_var (pv 3)) (da_nil) rfl) rfl) rfl rfl rfl) (da_nil) rfl) rfl)) (dg_tup rfl rfl (dgs_cons (dg_tup rfl rfl (dgs_cons (dg_name (pg_name sc_found_between.nd rfl (by first | exact Or.inl rfl | exact Or.inr rfl) (by first | exact .inl rfl | exact .inr rfl))) (dgs_cons (dg_name (pg_name sc_found_between.nd rfl (by first | exact Or.inl rfl | exact Or.inr rfl) (by first | exact .inl rfl | exact .inr rfl))) (dgs_nil) rfl) rfl) rfl rfl) (dgs_cons (dg_tup rfl rfl (dgs_cons (dg_name (pg_name sc_found_between.nd rfl (by first | exact Or.inl rfl | exact Or.inr rfl) (by first | exact .inl rfl | exact .inr rfl))) (dgs_cons (dg_name (pg_name sc_found_between.nd rfl (by first | exact Or.inl rfl | exact Or.inr rfl) (by first | exact .inl rfl | exact .inr rfl))) (dgs_nil) rfl) rfl) rfl rfl) (dgs_nil) rfl) rfl) rfl rfl) rfl rfl rfl) (dss_cons (ds_par3 (ps_par3 (i := 9) (j := 10) (l := 11) rfl sc_found_between.nd rfl rfl rfl (by decide) (by decide) (by decide) rfl rfl rfl (da_cons (de_call (Bun.call (ok_times B) i (by decide) (Bun.glo 14 rfl)) rfl (da_cons (de_op op_mulX rd_mul (DE.toR (de_var (pv 5))) (DE.toR (de_var (pv 8)))) (da_cons (de_var (pv 2)) (da_nil) rfl) rfl) rfl rfl rfl) (da_cons (de_call (Bun.call (ok_times B) i (by decide) (Bun.glo 14 rfl)) rfl (da_cons (de_op op_mulX rd_mul (DE.toR (de_var (pv 7))) (DE.toR (de_var (pv 6)))) (da_cons (de_var (pv 3)) (da_nil) rfl) rfl) rfl rfl rfl) (da_cons (de_op op_mulX rd_mul (DE.toR (de_var (pv 6))) (DE.toR (de_var (pv 8)))) (da_nil) rfl) rfl) rfl) rfl rfl)) (dss_cons (ds_own (da_nil) (fun te h => ps_set (i := 12) sc_found_between.nd rfl (by first | exact Or.inl rfl | exact Or.inr rfl) h rfl)) (dss_cons (ds_for PassesOwn.never rfl (di_seq rfl (de_tup (da_cons (de_tup (da_cons (de_const pe_int (fun _ => Rep.int _)) (da_cons (de_const pe_str (fun _ => Rep.str _)) (da_nil) rfl) rfl)) (da_cons (de_tup (da_cons (de_neg (de_const pe_int (fun _ => Rep.int _))) (da_cons (de_const pe_str (fun _ => Rep.str _)) (da_nil) rfl) rfl)) (da_nil) rfl) rfl))) (dg_tup rfl rfl (dgs_cons (dg_name (pg_name sc_found_between.nd rfl (by first | exact Or.inl rfl | exact Or.inr rfl) (by first | exact .inl rfl | exact .inr rfl))) (dgs_cons (dg_name (pg_name sc_found_between.nd rfl (by first | exact Or.inl rfl | exact Or.inr rfl) (by first | exact .inl rfl | exact .inr rfl))) (dgs_nil) rfl) rfl) rfl rfl) (dss_cons (ds_if (dc_test (op_inX (room65 i.room)) rd_in (DE.toR (de_var (pv 4))) (DE.toR (de_tup (da_cons (de_var (pv 14)) (da_cons (de_const pe_str (fun _ => Rep.str _)) (da_nil) rfl) rfl))) rfl) (dss_cons (ds_asg (de_call (Bun.call (ok_times B) i (by decide) (Bun.glo 14 rfl)) rfl (da_cons (de_var (pv 13)) (da_cons (de_call (Bun.call (ok_cross B) i (by decide) (Bun.glo 12 rfl)) rfl (da_cons (de_var (pv 9)) (da_cons (de_var (pv 10)) (da_nil) rfl) rfl) rfl rfl rfl) (da_nil) rfl) rfl) rfl rfl rfl) (dg_name (pg_name sc_found_between.nd rfl (by first | exact Or.inl rfl | exact Or.inr rfl) (by first | exact .inl rfl | exact .inr rfl))) rfl rfl rfl) (dss_cons (ds_app (pv 12) (de_call (Bun.call (ok_turn_of B) i (by decide) (Bun.glo 29 rfl)) rfl (da_cons (de_tup (da_cons (de_var (pv 0)) (da_cons (de_var (pv 1)) (da_cons (de_call (Bun.call (ok_cross B) i (by decide) (Bun.glo 12 rfl)) rfl (da_cons (de_var (pv 0)) (da_cons (de_var (pv 1)) (da_nil) rfl) rfl) rfl rfl rfl) (da_nil) rfl) rfl) rfl)) (da_cons (de_tup (da_cons (de_var (pv 9)) (da_cons (de_var (pv 10)) (da_cons (de_var (pv 15)) (da_nil) rfl) rfl) rfl)) (da_cons (de_var (pv 11)) (da_nil) rfl) rfl) rfl) rfl rfl rfl) rfl rfl rfl rfl rfl rfl) (dss_nil))) (dss_nil)) (dss_nil)) (fun _ => rfl)) (dss_cons (ds_frz (ds_ret (de_var (pv 12)))) (dss_nil)))))))
def N_turns_between : List Str := ["one", "other", "late", "after", "hands", "part", "triple"]
theorem sc_turns_between : FnScope N_turns_between ["one", "other", "late", "after", "hands"] (defScope (top 35)) := ⟨rfl, rfl, rfl, by decide +kernel, rfl, by decide +kernel, by decide +kernel⟩
def S_turns_between : SemS := sSeq (sDrop (dCall 1 F_check_hands (dCons (dV 4) (dNil)))) (sSeq (sFor (dItems (dTup (dCons (dTup (dCons (dC (.str "one")) (dCons (dV 0) (dNil)))) (dCons (dTup (dCons (dC (.str "other")) (dCons (dV 1) (dNil)))) (dCons (dTup (dCons (dC (.str "late")) (dCons (dV 2) (dNil)))) (dCons (dTup (dCons (dC (.str "after")) (dCons (dV 3) (dNil)))) (dNil))))))) (tgTup 2 (tgsCons (tgName 5) (tgsCons (tgName 6) (tgsNil)))) (sSeq (sDrop (dCall 2 F_check_triple (dCons (dV 5) (dCons (dV 6) (dNil))))) (sNext))) (sSeq (sRet (dCall 5 F_found_between (dCons (dV 0) (dCons (dV 1) (dCons (dV 2) (dCons (dV 3) (dCons (dV 4) (dNil)))))))) (sNext)))
def F_turns_between : Fn := runB 7 (S_turns_between)
theorem ok_turns_between (B : Bn) : B.Ok ("turns_between", none) 8 5 (F_turns_between) := by
  obtain ⟨fd, F⟩ := B.say.def_ (d := dd_turns_between) 30 rfl
  exact Bun.ok (k := 7) (N := N_turns_between) (ps := ["one", "other", "late", "after", "hands"]) (S := S_turns_between) F sc_turns_between (fun _ _ _ _ _ _ us hl => match us, hl with | [_, _, _, _, _], _ => rfl) fun da me cdv A outer s H E i => (show DSs (B.G da me) (B.X N_turns_between dd_turns_between.qual dd_turns_between.scope (He.fAd B.K ("turns_between", none)) cdv A outer s H E) (defBody (top 35)) (S_turns_between) from dss_cons (ds_expr (de_call (Bun.call (ok_check_hands B) i (by decide) (Bun.glo 6 rfl)) rfl (da_cons (de_var (pv 4)) (da_nil) rfl) rfl rfl rfl) rfl) (dss_cons (ds_for PassesOwn.never rfl (di_seq rfl (de_tup (da_cons (de_tup (da_cons (de_const pe_str (fun _ => Rep.str _)) (da_cons (de_var (pv 0)) (da_nil) rfl) rfl)) (da_cons (de_tup (da_cons (de_const pe_str (fun _ => Rep.str _)) (da_cons (de_var (pv 1)) (da_nil) rfl) rfl)) (da_cons (de_tup (da_cons (de_const pe_str (fun _ => Rep.str _)) (da_cons (de_var (pv 2)) (da_nil) rfl) rfl)) (da_cons (de_tup (da_cons (de_const pe_str (fun _ => Rep.str _)) (da_cons (de_var (pv 3)) (da_nil) rfl) rfl)) (da_nil) rfl) rfl) rfl) rfl))) (dg_tup rfl rfl (dgs_cons (dg_name (pg_name sc_turns_between.nd rfl (by first | exact Or.inl rfl | exact Or.inr rfl) (by first | exact .inl rfl | exact .inr rfl))) (dgs_cons (dg_name (pg_name sc_turns_between.nd rfl (by first | exact Or.inl rfl | exact Or.inr rfl) (by first | exact .inl rfl | exact .inr rfl))) (dgs_nil) rfl) rfl) rfl rfl) (dss_cons (ds_expr (de_call (Bun.call (ok_check_triple B) i (by decide) (Bun.glo 8 rfl)) rfl (da_cons (de_var (pv 5)) (da_cons (de_var (pv 6)) (da_nil) rfl) rfl) rfl rfl rfl) rfl) (dss_nil)) (fun _ => rfl)) (dss_cons (ds_ret (de_call (Bun.call (ok_found_between B) i (by decide) (Bun.glo 28 rfl)) rfl (da_cons (de_var (pv 0)) (da_cons (de_var (pv 1)) (da_cons (de_var (pv 2)) (da_cons (de_var (pv 3)) (da_cons (de_var (pv 4)) (da_nil) rfl) rfl) rfl) rfl) rfl) rfl rfl rfl)) (dss_nil))))
def N_law : List Str := ["script", "draw", "turn", "one", "way", "late", "seen", "axis", "flat", "about", "same", "other", "there", "moved", "hour", "number", "each"]
theorem sc_law : FnScope N_law ["script"] (defScope (top 51)) := ⟨rfl, rfl, rfl, by decide +kernel, rfl, by decide +kernel, by decide +kernel⟩
def S_law (ns : List Int) : SemS := sSeq (sFor (dRng (dCons (dC (.int 2)) dNil)) (tgName 2) (sSeq (sAsg (dTup (dCons (dCall 1 F_turn_by (dCons (dCall 1 (F__law_by ns) (dCons (dV 1) (dNil))) (dNil))) (dCons (dCall 1 F_turn_by (dCons (dCall 1 (F__law_by ns) (dCons (dV 1) (dNil))) (dNil))) (dCons (dCall 1 (F__law_sky ns) (dCons (dV 1) (dNil))) (dNil))))) (tgTup 3 (tgsCons (tgName 3) (tgsCons (tgName 4) (tgsCons (tgName 5) (tgsNil)))))) (sSeq (sAsg (dCall 2 F_then (dCons (dCall 2 F_then (dCons (dCall 1 F_back (dCons (dV 4) (dNil))) (dCons (dV 3) (dNil)))) (dCons (dV 4) (dNil)))) (tgName 6)) (sSeq (sAsg (dCall 1 F_axis_of (dCons (dV 3) (dNil))) (tgName 7)) (sSeq (sIf (dOrB (dEqB eqT true (dCall 2 F_order_of (dCons (dV 6) (dCons (dC (.int 12)) (dNil)))) (dCall 2 F_order_of (dCons (dV 3) (dCons (dC (.int 12)) (dNil))))) (dOrB (dEqB eqT true (dCall 1 F_hours_of_day (dCons (dV 6) (dNil))) (dCall 1 F_hours_of_day (dCons (dV 3) (dNil)))) (dEqB eqT true (dBin (fun x y => (cIs x y).map D.bl) (dV 7) (dC .non)) (dBin (fun x y => (cIs x y).map D.bl) (dCall 1 F_axis_of (dCons (dV 6) (dNil))) (dC .non))))) (sSeq (sRet (dC (.bl false))) (sNext)) (sNext)) (sSeq (sIf (dAndB (dBinB cIsNot (dV 7) (dC .non)) (dBinB cNotIn (dCall 1 F_axis_of (dCons (dV 6) (dNil))) (dTup (dCons (dCall 2 F_apply (dCons (dV 4) (dCons (dV 7) (dNil)))) (dCons (dCall 1 F_opposite (dCons (dCall 2 F_apply (dCons (dV 4) (dCons (dV 7) (dNil)))) (dNil))) (dNil)))))) (sSeq (sRet (dC (.bl false))) (sNext)) (sNext)) (sSeq (sIf (dOrB (dTru (dBi bAny (dCons (dLc [14] (dItems (dTup (dCons (dC (.int 0)) (dCons (dC (.int 1)) (dCons (dC (.int 2)) (dCons (dC (.int 3)) (dNil))))))) (tgName 14) (dTrue) (dEq eqT true (dCall 2 F_turn_at (dCons (dV 6) (dCons (dV 14) (dNil)))) (dCall 2 F_then (dCons (dCall 2 F_then (dCons (dCall 1 F_back (dCons (dV 4) (dNil))) (dCons (dCall 2 F_turn_at (dCons (dV 3) (dCons (dV 14) (dNil)))) (dNil)))) (dCons (dV 4) (dNil)))))) (dNil)))) (dEqB eqT true (dCall 2 F_apply (dCons (dV 6) (dCons (dCall 2 F_apply (dCons (dV 4) (dCons (dV 5) (dNil)))) (dNil)))) (dCall 2 F_apply (dCons (dV 4) (dCons (dCall 2 F_apply (dCons (dV 3) (dCons (dV 5) (dNil)))) (dNil)))))) (sSeq (sRet (dC (.bl false))) (sNext)) (sNext)) (sSeq (sAsg (dCall 2 F_then (dCons (dCall 2 F_then (dCons (dCall 0 F_mirror dNil) (dCons (dV 3) (dNil)))) (dCons (dCall 0 F_mirror dNil) (dNil)))) (tgName 8)) (sSeq (sIf (dOrB (dTru (dMeth mt_is_mirrored "is_mirrored" (dV 8) dNil)) (dOrB (dEqB eqT true (dCall 2 F_order_of (dCons (dV 8) (dCons (dC (.int 12)) (dNil)))) (dCall 2 F_order_of (dCons (dV 3) (dCons (dC (.int 12)) (dNil))))) (dEqB eqT true (dCall 2 F_apply (dCons (dV 8) (dCons (dTup (dCons (dBin D.ix (dV 5) (dC (.int 0))) (dCons (dBin D.ix (dV 5) (dC (.int 1))) (dCons (dBin D.sub (dC (.int 0)) (dBin D.ix (dV 5) (dC (.int 2)))) (dNil))))) (dNil)))) (dCall 2 F_apply (dCons (dCall 0 F_mirror dNil) (dCons (dCall 2 F_apply (dCons (dV 3) (dCons (dV 5) (dNil)))) (dNil))))))) (sSeq (sRet (dC (.bl false))) (sNext)) (sNext)) (sSeq (sIf (dBinB cIsNot (dV 7) (dC .non)) (sSeq (sAsg (dCall 1 F__law_glass (dCons (dV 7) (dNil))) (tgName 9)) (sSeq (sIf (dOrB (dAndB (dEqB eqT true (dCall 2 F_then (dCons (dCall 2 F_then (dCons (dV 9) (dCons (dV 3) (dNil)))) (dCons (dV 9) (dNil)))) (dCall 1 F_back (dCons (dV 3) (dNil)))) (dEqB eqT true (dCall 2 F_then (dCons (dCall 2 F_then (dCons (dV 9) (dCons (dV 3) (dNil)))) (dCons (dV 9) (dNil)))) (dV 3))) (dOrB (dEqB eqT true (dCall 2 F_apply (dCons (dV 9) (dCons (dV 7) (dNil)))) (dCall 1 F_opposite (dCons (dV 7) (dNil)))) (dOrB (dEqB eqT true (dCall 2 F_then (dCons (dV 9) (dCons (dV 9) (dNil)))) (dCall 0 F_no_turn dNil)) (dBinB cIsNot (dCall 1 F_axis_of (dCons (dV 9) (dNil))) (dC .non))))) (sSeq (sRet (dC (.bl false))) (sNext)) (sNext)) (sSeq (sAsg (dIf (dBinB cLt (dBi bMax (dCons (dLc [15] (dItems (dV 7)) (tgName 15) (dTrue) (dBi bAbs (dCons (dV 15) (dNil)))) (dNil))) (dC (.int 1000))) (dCall 1 F_turn_by (dCons (dBin D.add (dTup (dCons (dBin D.add (dC (.int 1)) (dCall 2 (F__law_take ns) (dCons (dV 1) (dCons (dC (.int 3)) (dNil))))) (dNil))) (dV 7)) (dNil))) (dV 3)) (tgName 10)) (sSeq (sIf (dOrB (dEqB eqT true (dCall 2 F_then (dCons (dV 3) (dCons (dV 10) (dNil)))) (dCall 2 F_then (dCons (dV 10) (dCons (dV 3) (dNil))))) (dBinB cNotIn (dCall 1 F_axis_of (dCons (dCall 2 F_then (dCons (dV 3) (dCons (dV 10) (dNil)))) (dNil))) (dTup (dCons (dV 7) (dCons (dCall 1 F_opposite (dCons (dV 7) (dNil))) (dCons (dC .non) (dNil))))))) (sSeq (sRet (dC (.bl false))) (sNext)) (sNext)) (sNext))))) (sNext)) (sSeq (sAsg (dCall 1 (F__law_sky ns) (dCons (dV 1) (dNil))) (tgName 11)) (sSeq (sIf (dNotB (dTru (dCall 2 F_is_on_line (dCons (dV 5) (dCons (dV 11) (dNil)))))) (sSeq (sAsg (dCall 5 F_turns_between (dCons (dV 5) (dCons (dV 11) (dCons (dCall 2 F_apply (dCons (dV 3) (dCons (dV 5) (dNil)))) (dCons (dCall 2 F_apply (dCons (dV 3) (dCons (dV 11) (dNil)))) (dCons (dC (.str "either")) (dNil))))))) (tgName 12)) (sSeq (sAsg (dCall 5 F_turns_between (dCons (dCall 2 F_apply (dCons (dV 4) (dCons (dV 5) (dNil)))) (dCons (dCall 2 F_apply (dCons (dV 4) (dCons (dV 11) (dNil)))) (dCons (dCall 2 F_apply (dCons (dV 4) (dCons (dCall 2 F_apply (dCons (dV 3) (dCons (dV 5) (dNil)))) (dNil)))) (dCons (dCall 2 F_apply (dCons (dV 4) (dCons (dCall 2 F_apply (dCons (dV 3) (dCons (dV 11) (dNil)))) (dNil)))) (dCons (dC (.str "either")) (dNil))))))) (tgName 13)) (sSeq (sIf (dOrB (dM2 true (leqD eqT) (dLc [16] (dItems (dV 12)) (tgName 16) (dTrue) (dCall 2 F_then (dCons (dCall 2 F_then (dCons (dCall 1 F_back (dCons (dV 4) (dNil))) (dCons (dV 16) (dNil)))) (dCons (dV 4) (dNil))))) (dV 13)) (dOrB (dEqB eqT true (dBin D.ix (dV 12) (dC (.int 0))) (dV 3)) (dEqB eqT true (dCall 2 F_apply (dCons (dV 3) (dCons (dCall 2 F_cross (dCons (dV 5) (dCons (dV 11) (dNil)))) (dNil)))) (dCall 2 F_apply (dCons (dBin D.ix (dV 12) (dC (.int 0))) (dCons (dCall 2 F_cross (dCons (dV 5) (dCons (dV 11) (dNil)))) (dNil))))))) (sSeq (sRet (dC (.bl false))) (sNext)) (sNext)) (sNext)))) (sNext)) (sNext))))))))))))) (sSeq (sRet (dC (.bl true))) (sNext))
def E_law : Env := .val .scr :: .val .drw :: List.replicate 15 .no
theorem ok_law (B : Bn) {fd : FuncData} (F : FunD B.K dd_law.name dd_law.qual dd_law.params dd_law.body dd_law.scope (dd_law.dvs B.K) (dd_law.kws B.K) (He.fAd B.K dd_law.at_) fd) (hr : ∃ k', S_law B.ns E_law 0 = some (.ret (.bl true), k')) : FnOk B.P B.w B.K B.mg B.base CX0 9 (He.fAd B.K ("law", none)) fd ["script"] (spLaw B.K B.sa B.ns) := by
  refine law_fn (cls := clsG B.K) (k := 8) (N := N_law.drop 2) (B := S_law B.ns) F sc_law (by first | exact Or.inl rfl | exact Or.inr rfl) (by first | exact Or.inl rfl | exact Or.inr rfl) (fun _ _ _ _ _ _ => rfl) (fun da cdv A outer s H E hr => ?_) hr
  have i : B.In (B.X N_law dd_law.qual dd_law.scope (He.fAd B.K ("law", none)) cdv A outer s H E) 8 := ⟨rfl, rfl, rfl, rfl, rfl, hr⟩
  exact (show DSs (B.G (some da) none) (B.X N_law dd_law.qual dd_law.scope (He.fAd B.K ("law", none)) cdv A outer s H E) ((defBody (top 51)).tail) (S_law B.ns) from dss_cons (ds_for PassesOwn.never rfl (di_range1 rfl (Bun.free 50 rfl) (de_const pe_int (fun _ => Rep.int _)) rfl) (dg_name (pg_name sc_law.nd rfl (by first | exact Or.inl rfl | exact Or.inr rfl) (by first | exact .inl rfl | exact .inr rfl))) (dss_cons (ds_asg (de_tup (da_cons (de_call (Bun.call (ok_turn_by B) i (by decide) (Bun.glo 23 rfl)) rfl (da_cons (de_call (Bun.call (ok__law_by B) i (by decide) (Bun.glo 38 rfl)) rfl (da_cons (de_var (pv 1)) (da_nil) rfl) rfl rfl rfl) (da_nil) rfl) rfl rfl rfl) (da_cons (de_call (Bun.call (ok_turn_by B) i (by decide) (Bun.glo 23 rfl)) rfl (da_cons (de_call (Bun.call (ok__law_by B) i (by decide) (Bun.glo 38 rfl)) rfl (da_cons (de_var (pv 1)) (da_nil) rfl) rfl rfl rfl) (da_nil) rfl) rfl rfl rfl) (da_cons (de_call (Bun.call (ok__law_sky B) i (by decide) (Bun.glo 37 rfl)) rfl (da_cons (de_var (pv 1)) (da_nil) rfl) rfl rfl rfl) (da_nil) rfl) rfl) rfl)) (dg_tup rfl rfl (dgs_cons (dg_name (pg_name sc_law.nd rfl (by first | exact Or.inl rfl | exact Or.inr rfl) (by first | exact .inl rfl | exact .inr rfl))) (dgs_cons (dg_name (pg_name sc_law.nd rfl (by first | exact Or.inl rfl | exact Or.inr rfl) (by first | exact .inl rfl | exact .inr rfl))) (dgs_cons (dg_name (pg_name sc_law.nd rfl (by first | exact Or.inl rfl | exact Or.inr rfl) (by first | exact .inl rfl | exact .inr rfl))) (dgs_nil) rfl) rfl) rfl) rfl rfl) rfl rfl rfl) (dss_cons (ds_asg (de_call (Bun.call (ok_then B) i (by decide) (Bun.glo 26 rfl)) rfl (da_cons (de_call (Bun.call (ok_then B) i (by decide) (Bun.glo 26 rfl)) rfl (da_cons (de_call (Bun.call (ok_back B) i (by decide) (Bun.glo 25 rfl)) rfl (da_cons (de_var (pv 4)) (da_nil) rfl) rfl rfl rfl) (da_cons (de_var (pv 3)) (da_nil) rfl) rfl) rfl rfl rfl) (da_cons (de_var (pv 4)) (da_nil) rfl) rfl) rfl rfl rfl) (dg_name (pg_name sc_law.nd rfl (by first | exact Or.inl rfl | exact Or.inr rfl) (by first | exact .inl rfl | exact .inr rfl))) rfl rfl rfl) (dss_cons (ds_asg (de_call (Bun.call (ok_axis_of B) i (by decide) (Bun.glo 30 rfl)) rfl (da_cons (de_var (pv 3)) (da_nil) rfl) rfl rfl rfl) (dg_name (pg_name sc_law.nd rfl (by first | exact Or.inl rfl | exact Or.inr rfl) (by first | exact .inl rfl | exact .inr rfl))) rfl rfl rfl) (dss_cons (ds_if (PW.pt (dw_or (dt_ne rfl Bun.kit (Bun.eqOk (eqRow B (by decide)) i) i.room.units (DE.toR (de_call (Bun.call (ok_order_of B) i (by decide) (Bun.glo 31 rfl)) rfl (da_cons (de_var (pv 6)) (da_cons (de_const pe_int (fun _ => Rep.int _)) (da_nil) rfl) rfl) rfl rfl rfl)) (de_call (Bun.call (ok_order_of B) i (by decide) (Bun.glo 31 rfl)) rfl (da_cons (de_var (pv 3)) (da_cons (de_const pe_int (fun _ => Rep.int _)) (da_nil) rfl) rfl) rfl rfl rfl) rfl) (dw_or (dt_ne rfl Bun.kit (Bun.eqOk (eqRow B (by decide)) i) i.room.units (DE.toR (de_call (Bun.call (ok_hours_of_day B) i (by decide) (Bun.glo 33 rfl)) rfl (da_cons (de_var (pv 6)) (da_nil) rfl) rfl rfl rfl)) (de_call (Bun.call (ok_hours_of_day B) i (by decide) (Bun.glo 33 rfl)) rfl (da_cons (de_var (pv 3)) (da_nil) rfl) rfl rfl rfl) rfl) (dw_or1 (dt_ne rfl Bun.kit (Bun.eqOk (eqRow B (by decide)) i) i.room.units (DE.toR (dc_val op_isD rd_is (DE.toR (de_var (pv 7))) (DE.toR (de_const pe_non (fun _ => Rep.non))) rfl)) (dc_val op_isD rd_is (DE.toR (de_call (Bun.call (ok_axis_of B) i (by decide) (Bun.glo 30 rfl)) rfl (da_cons (de_var (pv 6)) (da_nil) rfl) rfl rfl rfl)) (DE.toR (de_const pe_non (fun _ => Rep.non))) rfl) rfl))))) (dss_cons (ds_ret (de_const pe_bl (fun _ => Rep.bl _))) (dss_nil)) (dss_nil)) (dss_cons (ds_if (PW.pt (dw_and (dc_test op_isNotD rd_isNot (DE.toR (de_var (pv 7))) (DE.toR (de_const pe_non (fun _ => Rep.non))) rfl) (dw_and1 (dc_test (op_notInX (room65 i.room)) rd_notIn (DE.toR (de_call (Bun.call (ok_axis_of B) i (by decide) (Bun.glo 30 rfl)) rfl (da_cons (de_var (pv 6)) (da_nil) rfl) rfl rfl rfl)) (DE.toR (de_tup (da_cons (de_call (Bun.call (ok_apply B) i (by decide) (Bun.glo 24 rfl)) rfl (da_cons (de_var (pv 4)) (da_cons (de_var (pv 7)) (da_nil) rfl) rfl) rfl rfl rfl) (da_cons (de_call (Bun.call (ok_opposite B) i (by decide) (Bun.glo 10 rfl)) rfl (da_cons (de_call (Bun.call (ok_apply B) i (by decide) (Bun.glo 24 rfl)) rfl (da_cons (de_var (pv 4)) (da_cons (de_var (pv 7)) (da_nil) rfl) rfl) rfl rfl rfl) (da_nil) rfl) rfl rfl rfl) (da_nil) rfl) rfl))) rfl)))) (dss_cons (ds_ret (de_const pe_bl (fun _ => Rep.bl _))) (dss_nil)) (dss_nil)) (dss_cons (ds_if (PW.pt (dw_or (dt_tru rfl (DE.toR (de_callB (cr_any rfl) bAny_ok rfl (Bun.free 46 rfl) (by decide +kernel) (dra_cons (DE.toR (de_lc rfl sc_law.nd (di_seq rfl (de_tup (da_cons (de_const pe_int (fun _ => Rep.int _)) (da_cons (de_const pe_int (fun _ => Rep.int _)) (da_cons (de_const pe_int (fun _ => Rep.int _)) (da_cons (de_const pe_int (fun _ => Rep.int _)) (da_nil) rfl) rfl) rfl) rfl))) (blkOk_by (own := [("hour", 14)]) rfl) (fun _ _ _ _ _ => dg_name (pg_name sc_law.nd rfl (by first | exact Or.inl rfl | exact Or.inr rfl) (by first | exact .inl rfl | exact .inr rfl))) (fun _ _ _ _ _ => dts_nil) (fun _ _ _ _ _ => de_ne rfl Bun.kit (Bun.eqOk (eqRow B (by decide)) i.blk) i.blk.room.units (DE.toR (de_call (Bun.call (ok_turn_at B) i.blk (by decide) (Bun.glo 32 rfl)) rfl (da_cons (de_var (pv 6)) (da_cons (de_var (pv 14)) (da_nil) rfl) rfl) rfl rfl rfl)) (de_call (Bun.call (ok_then B) i.blk (by decide) (Bun.glo 26 rfl)) rfl (da_cons (de_call (Bun.call (ok_then B) i.blk (by decide) (Bun.glo 26 rfl)) rfl (da_cons (de_call (Bun.call (ok_back B) i.blk (by decide) (Bun.glo 25 rfl)) rfl (da_cons (de_var (pv 4)) (da_nil) rfl) rfl rfl rfl) (da_cons (de_call (Bun.call (ok_turn_at B) i.blk (by decide) (Bun.glo 32 rfl)) rfl (da_cons (de_var (pv 3)) (da_cons (de_var (pv 14)) (da_nil) rfl) rfl) rfl rfl rfl) (da_nil) rfl) rfl) rfl rfl rfl) (da_cons (de_var (pv 4)) (da_nil) rfl) rfl) rfl rfl rfl) rfl) (by decide) (fun _ => rfl) rfl)) (dra_nil) rfl) (by decide) rfl rfl rfl)) (fun _ => rfl)) (dw_or1 (dt_ne rfl Bun.kit (Bun.eqOk (eqRow B (by decide)) i) i.room.units (DE.toR (de_call (Bun.call (ok_apply B) i (by decide) (Bun.glo 24 rfl)) rfl (da_cons (de_var (pv 6)) (da_cons (de_call (Bun.call (ok_apply B) i (by decide) (Bun.glo 24 rfl)) rfl (da_cons (de_var (pv 4)) (da_cons (de_var (pv 5)) (da_nil) rfl) rfl) rfl rfl rfl) (da_nil) rfl) rfl) rfl rfl rfl)) (de_call (Bun.call (ok_apply B) i (by decide) (Bun.glo 24 rfl)) rfl (da_cons (de_var (pv 4)) (da_cons (de_call (Bun.call (ok_apply B) i (by decide) (Bun.glo 24 rfl)) rfl (da_cons (de_var (pv 3)) (da_cons (de_var (pv 5)) (da_nil) rfl) rfl) rfl rfl rfl) (da_nil) rfl) rfl) rfl rfl rfl) rfl)))) (dss_cons (ds_ret (de_const pe_bl (fun _ => Rep.bl _))) (dss_nil)) (dss_nil)) (dss_cons (ds_asg (de_call (Bun.call (ok_then B) i (by decide) (Bun.glo 26 rfl)) rfl (da_cons (de_call (Bun.call (ok_then B) i (by decide) (Bun.glo 26 rfl)) rfl (da_cons (de_call0 (Bun.call (ok_mirror B) i (by decide) (Bun.glo 22 rfl)) rfl rfl) (da_cons (de_var (pv 3)) (da_nil) rfl) rfl) rfl rfl rfl) (da_cons (de_call0 (Bun.call (ok_mirror B) i (by decide) (Bun.glo 22 rfl)) rfl rfl) (da_nil) rfl) rfl) rfl rfl rfl) (dg_name (pg_name sc_law.nd rfl (by first | exact Or.inl rfl | exact Or.inr rfl) (by first | exact .inl rfl | exact .inr rfl))) rfl rfl rfl) (dss_cons (ds_if (PW.pt (dw_or (dt_tru rfl (DE.toR (de_meth0 (mtOk_is_mirrored B i (by decide)) (de_var (pv 8)) rfl)) (fun _ => rfl)) (dw_or (dt_ne rfl Bun.kit (Bun.eqOk (eqRow B (by decide)) i) i.room.units (DE.toR (de_call (Bun.call (ok_order_of B) i (by decide) (Bun.glo 31 rfl)) rfl (da_cons (de_var (pv 8)) (da_cons (de_const pe_int (fun _ => Rep.int _)) (da_nil) rfl) rfl) rfl rfl rfl)) (de_call (Bun.call (ok_order_of B) i (by decide) (Bun.glo 31 rfl)) rfl (da_cons (de_var (pv 3)) (da_cons (de_const pe_int (fun _ => Rep.int _)) (da_nil) rfl) rfl) rfl rfl rfl) rfl) (dw_or1 (dt_ne rfl Bun.kit (Bun.eqOk (eqRow B (by decide)) i) i.room.units (DE.toR (de_call (Bun.call (ok_apply B) i (by decide) (Bun.glo 24 rfl)) rfl (da_cons (de_var (pv 8)) (da_cons (de_tup (da_cons (de_ix rfl (DE.toR (de_var (pv 5))) (DE.toR (de_const pe_int (fun _ => Rep.int _))) (fun _ _ => rfl)) (da_cons (de_ix rfl (DE.toR (de_var (pv 5))) (DE.toR (de_const pe_int (fun _ => Rep.int _))) (fun _ _ => rfl)) (da_cons (de_op op_sub rd_sub (DE.toR (de_const pe_int (fun _ => Rep.int _))) (DE.toR (de_ix rfl (DE.toR (de_var (pv 5))) (DE.toR (de_const pe_int (fun _ => Rep.int _))) (fun _ _ => rfl)))) (da_nil) rfl) rfl) rfl)) (da_nil) rfl) rfl) rfl rfl rfl)) (de_call (Bun.call (ok_apply B) i (by decide) (Bun.glo 24 rfl)) rfl (da_cons (de_call0 (Bun.call (ok_mirror B) i (by decide) (Bun.glo 22 rfl)) rfl rfl) (da_cons (de_call (Bun.call (ok_apply B) i (by decide) (Bun.glo 24 rfl)) rfl (da_cons (de_var (pv 3)) (da_cons (de_var (pv 5)) (da_nil) rfl) rfl) rfl rfl rfl) (da_nil) rfl) rfl) rfl rfl rfl) rfl))))) (dss_cons (ds_ret (de_const pe_bl (fun _ => Rep.bl _))) (dss_nil)) (dss_nil)) (dss_cons (ds_if (dc_test op_isNotD rd_isNot (DE.toR (de_var (pv 7))) (DE.toR (de_const pe_non (fun _ => Rep.non))) rfl) (dss_cons (ds_asg (de_call (Bun.call (ok__law_glass B) i (by decide) (Bun.glo 39 rfl)) rfl (da_cons (de_var (pv 7)) (da_nil) rfl) rfl rfl rfl) (dg_name (pg_name sc_law.nd rfl (by first | exact Or.inl rfl | exact Or.inr rfl) (by first | exact .inl rfl | exact .inr rfl))) rfl rfl rfl) (dss_cons (ds_if (PW.pt (dw_or (PW.pt (dw_and (dt_ne rfl Bun.kit (Bun.eqOk (eqRow B (by decide)) i) i.room.units (DE.toR (de_call (Bun.call (ok_then B) i (by decide) (Bun.glo 26 rfl)) rfl (da_cons (de_call (Bun.call (ok_then B) i (by decide) (Bun.glo 26 rfl)) rfl (da_cons (de_var (pv 9)) (da_cons (de_var (pv 3)) (da_nil) rfl) rfl) rfl rfl rfl) (da_cons (de_var (pv 9)) (da_nil) rfl) rfl) rfl rfl rfl)) (de_call (Bun.call (ok_back B) i (by decide) (Bun.glo 25 rfl)) rfl (da_cons (de_var (pv 3)) (da_nil) rfl) rfl rfl rfl) rfl) (dw_and1 (dt_ne rfl Bun.kit (Bun.eqOk (eqRow B (by decide)) i) i.room.units (DE.toR (de_call (Bun.call (ok_then B) i (by decide) (Bun.glo 26 rfl)) rfl (da_cons (de_call (Bun.call (ok_then B) i (by decide) (Bun.glo 26 rfl)) rfl (da_cons (de_var (pv 9)) (da_cons (de_var (pv 3)) (da_nil) rfl) rfl) rfl rfl rfl) (da_cons (de_var (pv 9)) (da_nil) rfl) rfl) rfl rfl rfl)) (de_var (pv 3)) rfl)))) (dw_or (dt_ne rfl Bun.kit (Bun.eqOk (eqRow B (by decide)) i) i.room.units (DE.toR (de_call (Bun.call (ok_apply B) i (by decide) (Bun.glo 24 rfl)) rfl (da_cons (de_var (pv 9)) (da_cons (de_var (pv 7)) (da_nil) rfl) rfl) rfl rfl rfl)) (de_call (Bun.call (ok_opposite B) i (by decide) (Bun.glo 10 rfl)) rfl (da_cons (de_var (pv 7)) (da_nil) rfl) rfl rfl rfl) rfl) (dw_or (dt_ne rfl Bun.kit (Bun.eqOk (eqRow B (by decide)) i) i.room.units (DE.toR (de_call (Bun.call (ok_then B) i (by decide) (Bun.glo 26 rfl)) rfl (da_cons (de_var (pv 9)) (da_cons (de_var (pv 9)) (da_nil) rfl) rfl) rfl rfl rfl)) (de_call0 (Bun.call (ok_no_turn B) i (by decide) (Bun.glo 21 rfl)) rfl rfl) rfl) (dw_or1 (dc_test op_isNotD rd_isNot (DE.toR (de_call (Bun.call (ok_axis_of B) i (by decide) (Bun.glo 30 rfl)) rfl (da_cons (de_var (pv 9)) (da_nil) rfl) rfl rfl rfl)) (DE.toR (de_const pe_non (fun _ => Rep.non))) rfl)))))) (dss_cons (ds_ret (de_const pe_bl (fun _ => Rep.bl _))) (dss_nil)) (dss_nil)) (dss_cons (ds_asg (de_if (dc_test op_lt rd_lt (DE.toR (de_callB ((cr_max rfl).or (call_max2 rfl)) bMax_ok rfl (Bun.free 53 rfl) (by decide +kernel) (dra_cons (DE.toR (de_lc rfl sc_law.nd (di_seq rfl (de_var (pv 7))) (blkOk_by (own := [("number", 15)]) rfl) (fun _ _ _ _ _ => dg_name (pg_name sc_law.nd rfl (by first | exact Or.inl rfl | exact Or.inr rfl) (by first | exact .inl rfl | exact .inr rfl))) (fun _ _ _ _ _ => dts_nil) (fun _ _ _ _ _ => de_callB call_abs bAbs_ok rfl (Bun.free 54 rfl) (by decide +kernel) (dra_cons (DE.toR (de_var (pv 15))) (dra_nil) rfl) (by decide) rfl rfl rfl) (by decide) (fun _ => rfl) rfl)) (dra_nil) rfl) (by decide) rfl rfl rfl)) (DE.toR (de_const pe_int (fun _ => Rep.int _))) rfl) (de_call (Bun.call (ok_turn_by B) i (by decide) (Bun.glo 23 rfl)) rfl (da_cons (de_op op_addD rd_add (DE.toR (de_tup (da_cons (de_op op_addD rd_add (DE.toR (de_const pe_int (fun _ => Rep.int _))) (DE.toR (de_call (Bun.call (ok__law_take B) i (by decide) (Bun.glo 35 rfl)) rfl (da_cons (de_var (pv 1)) (da_cons (de_const pe_int (fun _ => Rep.int _)) (da_nil) rfl) rfl) rfl rfl rfl))) (da_nil) rfl))) (DE.toR (de_var (pv 7)))) (da_nil) rfl) rfl rfl rfl) (de_var (pv 3))) (dg_name (pg_name sc_law.nd rfl (by first | exact Or.inl rfl | exact Or.inr rfl) (by first | exact .inl rfl | exact .inr rfl))) rfl rfl rfl) (dss_cons (ds_if (PW.pt (dw_or (dt_ne rfl Bun.kit (Bun.eqOk (eqRow B (by decide)) i) i.room.units (DE.toR (de_call (Bun.call (ok_then B) i (by decide) (Bun.glo 26 rfl)) rfl (da_cons (de_var (pv 3)) (da_cons (de_var (pv 10)) (da_nil) rfl) rfl) rfl rfl rfl)) (de_call (Bun.call (ok_then B) i (by decide) (Bun.glo 26 rfl)) rfl (da_cons (de_var (pv 10)) (da_cons (de_var (pv 3)) (da_nil) rfl) rfl) rfl rfl rfl) rfl) (dw_or1 (dc_test (op_notInX (room65 i.room)) rd_notIn (DE.toR (de_call (Bun.call (ok_axis_of B) i (by decide) (Bun.glo 30 rfl)) rfl (da_cons (de_call (Bun.call (ok_then B) i (by decide) (Bun.glo 26 rfl)) rfl (da_cons (de_var (pv 3)) (da_cons (de_var (pv 10)) (da_nil) rfl) rfl) rfl rfl rfl) (da_nil) rfl) rfl rfl rfl)) (DE.toR (de_tup (da_cons (de_var (pv 7)) (da_cons (de_call (Bun.call (ok_opposite B) i (by decide) (Bun.glo 10 rfl)) rfl (da_cons (de_var (pv 7)) (da_nil) rfl) rfl rfl rfl) (da_cons (de_const pe_non (fun _ => Rep.non)) (da_nil) rfl) rfl) rfl))) rfl)))) (dss_cons (ds_ret (de_const pe_bl (fun _ => Rep.bl _))) (dss_nil)) (dss_nil)) (dss_nil))))) (dss_nil)) (dss_cons (ds_asg (de_call (Bun.call (ok__law_sky B) i (by decide) (Bun.glo 37 rfl)) rfl (da_cons (de_var (pv 1)) (da_nil) rfl) rfl rfl rfl) (dg_name (pg_name sc_law.nd rfl (by first | exact Or.inl rfl | exact Or.inr rfl) (by first | exact .inl rfl | exact .inr rfl))) rfl rfl rfl) (dss_cons (ds_if (dt_not (dt_tru rfl (DE.toR (de_call (Bun.call (ok_is_on_line B) i (by decide) (Bun.glo 15 rfl)) rfl (da_cons (de_var (pv 5)) (da_cons (de_var (pv 11)) (da_nil) rfl) rfl) rfl rfl rfl)) (fun _ => rfl))) (dss_cons (ds_asg (de_call (Bun.call (ok_turns_between B) i (by decide) (Bun.glo 27 rfl)) rfl (da_cons (de_var (pv 5)) (da_cons (de_var (pv 11)) (da_cons (de_call (Bun.call (ok_apply B) i (by decide) (Bun.glo 24 rfl)) rfl (da_cons (de_var (pv 3)) (da_cons (de_var (pv 5)) (da_nil) rfl) rfl) rfl rfl rfl) (da_cons (de_call (Bun.call (ok_apply B) i (by decide) (Bun.glo 24 rfl)) rfl (da_cons (de_var (pv 3)) (da_cons (de_var (pv 11)) (da_nil) rfl) rfl) rfl rfl rfl) (da_cons (de_const pe_str (fun _ => Rep.str _)) (da_nil) rfl) rfl) rfl) rfl) rfl) rfl rfl rfl) (dg_name (pg_name sc_law.nd rfl (by first | exact Or.inl rfl | exact Or.inr rfl) (by first | exact .inl rfl | exact .inr rfl))) rfl rfl rfl) (dss_cons (ds_asg (de_call (Bun.call (ok_turns_between B) i (by decide) (Bun.glo 27 rfl)) rfl (da_cons (de_call (Bun.call (ok_apply B) i (by decide) (Bun.glo 24 rfl)) rfl (da_cons (de_var (pv 4)) (da_cons (de_var (pv 5)) (da_nil) rfl) rfl) rfl rfl rfl) (da_cons (de_call (Bun.call (ok_apply B) i (by decide) (Bun.glo 24 rfl)) rfl (da_cons (de_var (pv 4)) (da_cons (de_var (pv 11)) (da_nil) rfl) rfl) rfl rfl rfl) (da_cons (de_call (Bun.call (ok_apply B) i (by decide) (Bun.glo 24 rfl)) rfl (da_cons (de_var (pv 4)) (da_cons (de_call (Bun.call (ok_apply B) i (by decide) (Bun.glo 24 rfl)) rfl (da_cons (de_var (pv 3)) (da_cons (de_var (pv 5)) (da_nil) rfl) rfl) rfl rfl rfl) (da_nil) rfl) rfl) rfl rfl rfl) (da_cons (de_call (Bun.call (ok_apply B) i (by decide) (Bun.glo 24 rfl)) rfl (da_cons (de_var (pv 4)) (da_cons (de_call (Bun.call (ok_apply B) i (by decide) (Bun.glo 24 rfl)) rfl (da_cons (de_var (pv 3)) (da_cons (de_var (pv 11)) (da_nil) rfl) rfl) rfl rfl rfl) (da_nil) rfl) rfl) rfl rfl rfl) (da_cons (de_const pe_str (fun _ => Rep.str _)) (da_nil) rfl) rfl) rfl) rfl) rfl) rfl rfl rfl) (dg_name (pg_name sc_law.nd rfl (by first | exact Or.inl rfl | exact Or.inr rfl) (by first | exact .inl rfl | exact .inr rfl))) rfl rfl rfl) (dss_cons (ds_if (PW.pt (dw_or (dt_lne rfl Bun.kit (Bun.eqOk (eqRow B (by decide)) i) (room65 i.room) (DE.toR (de_lc rfl sc_law.nd (di_seq rfl (de_var (pv 12))) (blkOk_by (own := [("each", 16)]) rfl) (fun _ _ _ _ _ => dg_name (pg_name sc_law.nd rfl (by first | exact Or.inl rfl | exact Or.inr rfl) (by first | exact .inl rfl | exact .inr rfl))) (fun _ _ _ _ _ => dts_nil) (fun _ _ _ _ _ => de_call (Bun.call (ok_then B) i.blk (by decide) (Bun.glo 26 rfl)) rfl (da_cons (de_call (Bun.call (ok_then B) i.blk (by decide) (Bun.glo 26 rfl)) rfl (da_cons (de_call (Bun.call (ok_back B) i.blk (by decide) (Bun.glo 25 rfl)) rfl (da_cons (de_var (pv 4)) (da_nil) rfl) rfl rfl rfl) (da_cons (de_var (pv 16)) (da_nil) rfl) rfl) rfl rfl rfl) (da_cons (de_var (pv 4)) (da_nil) rfl) rfl) rfl rfl rfl) (by decide) (fun _ => rfl) rfl)) (DE.toR (de_var (pv 13))) rfl) (dw_or (dt_ne rfl Bun.kit (Bun.eqOk (eqRow B (by decide)) i) i.room.units (DE.toR (de_ix rfl (DE.toR (de_var (pv 12))) (DE.toR (de_const pe_int (fun _ => Rep.int _))) (fun _ _ => rfl))) (de_var (pv 3)) rfl) (dw_or1 (dt_ne rfl Bun.kit (Bun.eqOk (eqRow B (by decide)) i) i.room.units (DE.toR (de_call (Bun.call (ok_apply B) i (by decide) (Bun.glo 24 rfl)) rfl (da_cons (de_var (pv 3)) (da_cons (de_call (Bun.call (ok_cross B) i (by decide) (Bun.glo 12 rfl)) rfl (da_cons (de_var (pv 5)) (da_cons (de_var (pv 11)) (da_nil) rfl) rfl) rfl rfl rfl) (da_nil) rfl) rfl) rfl rfl rfl)) (de_call (Bun.call (ok_apply B) i (by decide) (Bun.glo 24 rfl)) rfl (da_cons (de_ix rfl (DE.toR (de_var (pv 12))) (DE.toR (de_const pe_int (fun _ => Rep.int _))) (fun _ _ => rfl)) (da_cons (de_call (Bun.call (ok_cross B) i (by decide) (Bun.glo 12 rfl)) rfl (da_cons (de_var (pv 5)) (da_cons (de_var (pv 11)) (da_nil) rfl) rfl) rfl rfl rfl) (da_nil) rfl) rfl) rfl rfl rfl) rfl))))) (dss_cons (ds_ret (de_const pe_bl (fun _ => Rep.bl _))) (dss_nil)) (dss_nil)) (dss_nil)))) (dss_nil)) (dss_nil)))))))))))) (fun _ => rfl)) (dss_cons (ds_ret (de_const pe_bl (fun _ => Rep.bl _))) (dss_nil)))
theorem law_holds (hp : ∀ ns : List Int, ns.length ≤ 63 → ∃ k', S_law ns E_law 0 = some (.ret (.bl true), k')) : PySem.Challenge.rw_skyplaced_k94_turns_seen_from_turns.Holds := by
  w_on; o_law
  refine HandSHeadRun.head_any (r := PySem.W.OpenLaw.row PySem.Challenge.rw_skyplaced_k94_turns_seen_from_turns) (q := PySem.W.view (PySem.W.OpenLaw.row PySem.Challenge.rw_skyplaced_k94_turns_seen_from_turns).prog [51]) (H := hk) (ob := ob) (M := 6000) (loose := loose) (d := HandSHeadRun.topDef (PySem.W.OpenLaw.row PySem.Challenge.rw_skyplaced_k94_turns_seen_from_turns).prog 51) (kwd := []) ob_eq
    (by kernel_rfl) (fun s => by kernel_rfl) run (by kernel_rfl) (by kernel_rfl) (by kernel_rfl) (by rfl) (by first | assumption | decide +kernel) (by decide +kernel) ⟨rfl, rfl, rfl, rfl, rfl, by decide +kernel⟩ ?hw ?hc
  case hw => w_witness2
  case hc =>
    refine L2.walk_ofE (l := PySem.Challenge.rw_skyplaced_k94_turns_seen_from_turns) (n := 63) (k := 9) (x := "script") (CX := L2.CX0) rfl (by decide) (by kernel_rfl) ⟨rfl, by decide, by decide⟩ ?F (fun _ _ _ _ z => z)
    intro w mg fa' h Y G hmg0
    obtain ⟨K, KX, c⟩ := Y
    have hmg : mg ("law" : PySem.Str) = some (.ref fa') := by
      have e : (HandSHeadRun.topDef (PySem.W.OpenLaw.row PySem.Challenge.rw_skyplaced_k94_turns_seen_from_turns).prog 51).name = ("law" : PySem.Str) := by kernel_rfl
      rw [← e]
      exact hmg0
    obtain ⟨fd, F⟩ := c.def_ (d := dd_law) 43 rfl
    have e := hmg.symm.trans (He.glo_ok KX G (c.fact 40 (f := .glo "law") rfl))
    cases e
    have b := FunD.bindsA (ps := ["script"]) F fun _ _ _ _ _ _ us hl => match us, hl with | [_], _ => rfl
    exact ⟨K, fd, _, KX, fun s v => b s [v] rfl, fun H a ns hl hO hS => ⟨a, ns, hl, rfl, hO, hS, fun _ => rfl⟩, fun base hI hN => law_any fun sa ns hl => ok_law ⟨_, w, K, mg, base, sa, ns, hI, hN, c⟩ F (hp ns hl)⟩
end Sky

end
section
namespace Sky
open PySem PySem.Spec PyProof.Rows L2
-- ### the evaluator's equations 
abbrev v3 (a b c : Int) : D := .tup [.int a, .int b, .int c]
theorem mul_ok {i j : Int} (h : mulOk i j = true) : D.mul (.int i) (.int j) = some (.int (i * j)) := if_pos h
theorem fdiv_ok {i j : Int} (h : divOk j = true) : D.fdiv (.int i) (.int j) = some (.int (i / j)) := if_pos h
@[simp] theorem eq_int {i j : Int} : cEqP (.int i) (.int j) = some (decide (i = j)) := by
  unfold cEqP
  simp [D.py, SeqAt.shaped, PyData.canLay0, PyData.depth, PyData.eqv]
  by_cases h : i = j <;> simp [h]
@[simp] theorem eq_non_int {j : Int} : cEqP .non (.int j) = some false := by
  unfold cEqP
  simp [D.py, SeqAt.shaped, PyData.canLay0, PyData.depth, PyData.eqv]
@[simp] theorem eq_int_non {j : Int} : cEqP (.int j) .non = some false := by
  unfold cEqP
  simp [D.py, SeqAt.shaped, PyData.canLay0, PyData.depth, PyData.eqv]
@[simp] theorem eq_v3 {a b c x y z : Int} : cEqP (v3 a b c) (v3 x y z) = some (decide (a = x ∧ b = y ∧ c = z)) := by
  unfold cEqP
  simp [v3, D.py, D.pys, SeqAt.shaped, PyData.canLay0, PyData.canLayAll0, PyData.depth, PyData.depthAll, PyData.eqv, PyData.eqvAll]
  rw [Bool.eq_iff_iff]; simp
@[simp] theorem is_integer_int {i : Int} {k : Nat} : F_is_integer [.int i] k = some (.bl true, k) := by
  simp [↓runB, ↓runI, ↓startE, ↓startI, ↓sSeq, ↓sRet, ↓sRetN, ↓sIf, ↓sAsg, ↓sDrop, ↓sFail, ↓sNext, ↓sPar2, ↓sPar3, ↓sFor, ↓forLoop, ↓sMe, ↓M.bind, ↓M.pure, ↓M.lift, ↓M.fail, ↓dBi, ↓dLc, ↓lcLoop, ↓dZip, ↓zipD, ↓pairD, ↓dEnumA, ↓enumD, ↓rangeD, ↓dRng, ↓dItems, ↓dCons, ↓dNil, ↓dBin, ↓dBinB, ↓dTup, ↓dLst, ↓dUn, ↓dIf, ↓dAndB, ↓dOrB, ↓dAndV, ↓dOrV, ↓dNotV, ↓D.tru, ↓dNotB, ↓dVal, ↓dIsi, ↓dIsiT, ↓dFld, ↓dCall, ↓dMake, ↓dEq, ↓dEqB, ↓dEqD, ↓dV, ↓dVR, ↓dC, ↓dTrue, ↓dTru, ↓tgTup, ↓tgsCons, ↓tgName, ↓tgsNil, ↓wipeE, ↓bSum, ↓bLen, ↓bAbs, ↓bTup, ↓bLst, ↓bAll, ↓bAny, ↓intsD, ↓boolsD, ↓D.add, ↓D.sub, ↓D.neg, ↓D.ix, ↓atI, ↓ixN, ↓D.mod, ↓D.kl, ↓Kl.sub, ↓Kl.subs, ↓Cn.fields, ↓cLt, ↓cLe, ↓cGe, ↓cGtA, ↓cIs, ↓cIsNot, ↓D.isNon, ↓D.items, ↓rng, ↓okR, ↓lim, ↓eq0, ↓dMeth, ↓dGet1, ↓keyD, ↓sFrz, ↓sOwn, ↓sApp, ↓dDrw0, ↓dDrw1, ↓sInc, ↓dLenS, ↓dIxS, ↓dNeS, ↓dPow, ↓bInt, ↓eqT, F_is_integer, S_is_integer, N_is_integer, dAndV, dNotV, D.tru]
@[simp] theorem is_row_lst {xs : List D} {k : Nat} : F_is_row [.lst xs] k = some (.bl true, k) := by
  simp [↓runB, ↓runI, ↓startE, ↓startI, ↓sSeq, ↓sRet, ↓sRetN, ↓sIf, ↓sAsg, ↓sDrop, ↓sFail, ↓sNext, ↓sPar2, ↓sPar3, ↓sFor, ↓forLoop, ↓sMe, ↓M.bind, ↓M.pure, ↓M.lift, ↓M.fail, ↓dBi, ↓dLc, ↓lcLoop, ↓dZip, ↓zipD, ↓pairD, ↓dEnumA, ↓enumD, ↓rangeD, ↓dRng, ↓dItems, ↓dCons, ↓dNil, ↓dBin, ↓dBinB, ↓dTup, ↓dLst, ↓dUn, ↓dIf, ↓dAndB, ↓dOrB, ↓dAndV, ↓dOrV, ↓dNotV, ↓D.tru, ↓dNotB, ↓dVal, ↓dIsi, ↓dIsiT, ↓dFld, ↓dCall, ↓dMake, ↓dEq, ↓dEqB, ↓dEqD, ↓dV, ↓dVR, ↓dC, ↓dTrue, ↓dTru, ↓tgTup, ↓tgsCons, ↓tgName, ↓tgsNil, ↓wipeE, ↓bSum, ↓bLen, ↓bAbs, ↓bTup, ↓bLst, ↓bAll, ↓bAny, ↓intsD, ↓boolsD, ↓D.add, ↓D.sub, ↓D.neg, ↓D.ix, ↓atI, ↓ixN, ↓D.mod, ↓D.kl, ↓Kl.sub, ↓Kl.subs, ↓Cn.fields, ↓cLt, ↓cLe, ↓cGe, ↓cGtA, ↓cIs, ↓cIsNot, ↓D.isNon, ↓D.items, ↓rng, ↓okR, ↓lim, ↓eq0, ↓dMeth, ↓dGet1, ↓keyD, ↓sFrz, ↓sOwn, ↓sApp, ↓dDrw0, ↓dDrw1, ↓sInc, ↓dLenS, ↓dIxS, ↓dNeS, ↓dPow, ↓bInt, ↓eqT, F_is_row, S_is_row]
@[simp] theorem is_row_tup {xs : List D} {k : Nat} : F_is_row [.tup xs] k = some (.bl true, k) := by
  simp [↓runB, ↓runI, ↓startE, ↓startI, ↓sSeq, ↓sRet, ↓sRetN, ↓sIf, ↓sAsg, ↓sDrop, ↓sFail, ↓sNext, ↓sPar2, ↓sPar3, ↓sFor, ↓forLoop, ↓sMe, ↓M.bind, ↓M.pure, ↓M.lift, ↓M.fail, ↓dBi, ↓dLc, ↓lcLoop, ↓dZip, ↓zipD, ↓pairD, ↓dEnumA, ↓enumD, ↓rangeD, ↓dRng, ↓dItems, ↓dCons, ↓dNil, ↓dBin, ↓dBinB, ↓dTup, ↓dLst, ↓dUn, ↓dIf, ↓dAndB, ↓dOrB, ↓dAndV, ↓dOrV, ↓dNotV, ↓D.tru, ↓dNotB, ↓dVal, ↓dIsi, ↓dIsiT, ↓dFld, ↓dCall, ↓dMake, ↓dEq, ↓dEqB, ↓dEqD, ↓dV, ↓dVR, ↓dC, ↓dTrue, ↓dTru, ↓tgTup, ↓tgsCons, ↓tgName, ↓tgsNil, ↓wipeE, ↓bSum, ↓bLen, ↓bAbs, ↓bTup, ↓bLst, ↓bAll, ↓bAny, ↓intsD, ↓boolsD, ↓D.add, ↓D.sub, ↓D.neg, ↓D.ix, ↓atI, ↓ixN, ↓D.mod, ↓D.kl, ↓Kl.sub, ↓Kl.subs, ↓Cn.fields, ↓cLt, ↓cLe, ↓cGe, ↓cGtA, ↓cIs, ↓cIsNot, ↓D.isNon, ↓D.items, ↓rng, ↓okR, ↓lim, ↓eq0, ↓dMeth, ↓dGet1, ↓keyD, ↓sFrz, ↓sOwn, ↓sApp, ↓dDrw0, ↓dDrw1, ↓sInc, ↓dLenS, ↓dIxS, ↓dNeS, ↓dPow, ↓bInt, ↓eqT, F_is_row, S_is_row]
theorem dot_spec {a b c x y z : Int} {k : Nat} (h1 : mulOk a x = true) (h2 : mulOk b y = true) (h3 : mulOk c z = true) : F_dot [v3 a b c, v3 x y z] k = some (.int (a * x + b * y + c * z), k) := by
  simp [↓runB, ↓runI, ↓startE, ↓startI, ↓sSeq, ↓sRet, ↓sRetN, ↓sIf, ↓sAsg, ↓sDrop, ↓sFail, ↓sNext, ↓sPar2, ↓sPar3, ↓sFor, ↓forLoop, ↓sMe, ↓M.bind, ↓M.pure, ↓M.lift, ↓M.fail, ↓dBi, ↓dLc, ↓lcLoop, ↓dZip, ↓zipD, ↓pairD, ↓dEnumA, ↓enumD, ↓rangeD, ↓dRng, ↓dItems, ↓dCons, ↓dNil, ↓dBin, ↓dBinB, ↓dTup, ↓dLst, ↓dUn, ↓dIf, ↓dAndB, ↓dOrB, ↓dAndV, ↓dOrV, ↓dNotV, ↓D.tru, ↓dNotB, ↓dVal, ↓dIsi, ↓dIsiT, ↓dFld, ↓dCall, ↓dMake, ↓dEq, ↓dEqB, ↓dEqD, ↓dV, ↓dVR, ↓dC, ↓dTrue, ↓dTru, ↓tgTup, ↓tgsCons, ↓tgName, ↓tgsNil, ↓wipeE, ↓bSum, ↓bLen, ↓bAbs, ↓bTup, ↓bLst, ↓bAll, ↓bAny, ↓intsD, ↓boolsD, ↓D.add, ↓D.sub, ↓D.neg, ↓D.ix, ↓atI, ↓ixN, ↓D.mod, ↓D.kl, ↓Kl.sub, ↓Kl.subs, ↓Cn.fields, ↓cLt, ↓cLe, ↓cGe, ↓cGtA, ↓cIs, ↓cIsNot, ↓D.isNon, ↓D.items, ↓rng, ↓okR, ↓lim, ↓eq0, ↓dMeth, ↓dGet1, ↓keyD, ↓sFrz, ↓sOwn, ↓sApp, ↓dDrw0, ↓dDrw1, ↓sInc, ↓dLenS, ↓dIxS, ↓dNeS, ↓dPow, ↓bInt, ↓eqT, F_dot, S_dot, mul_ok h1, mul_ok h2, mul_ok h3, Int.add_assoc]
theorem common_wh {k : Nat} : ∀ (n a b : Nat), b < n → whLoop (dBinB cGtA (dV 1) (dC (.int 0))) (sSeq (sPar2 0 1 (dV 1) (dBin D.mod (dV 0) (dV 1))) sNext) n [.val (.int a), .val (.int b)] k = some (.nx [.val (.int (Nat.gcd a b : Nat)), .val (.int 0)], k) := by
  intro n
  induction n with
  | zero => intro a b h; omega
  | succ n ih =>
    intro a b h
    unfold whLoop
    by_cases hb : b = 0
    · subst hb; simp [↓runB, ↓runI, ↓startE, ↓startI, ↓sSeq, ↓sRet, ↓sRetN, ↓sIf, ↓sAsg, ↓sDrop, ↓sFail, ↓sNext, ↓sPar2, ↓sPar3, ↓sFor, ↓forLoop, ↓sMe, ↓M.bind, ↓M.pure, ↓M.lift, ↓M.fail, ↓dBi, ↓dLc, ↓lcLoop, ↓dZip, ↓zipD, ↓pairD, ↓dEnumA, ↓enumD, ↓rangeD, ↓dRng, ↓dItems, ↓dCons, ↓dNil, ↓dBin, ↓dBinB, ↓dTup, ↓dLst, ↓dUn, ↓dIf, ↓dAndB, ↓dOrB, ↓dAndV, ↓dOrV, ↓dNotV, ↓D.tru, ↓dNotB, ↓dVal, ↓dIsi, ↓dIsiT, ↓dFld, ↓dCall, ↓dMake, ↓dEq, ↓dEqB, ↓dEqD, ↓dV, ↓dVR, ↓dC, ↓dTrue, ↓dTru, ↓tgTup, ↓tgsCons, ↓tgName, ↓tgsNil, ↓wipeE, ↓bSum, ↓bLen, ↓bAbs, ↓bTup, ↓bLst, ↓bAll, ↓bAny, ↓intsD, ↓boolsD, ↓D.add, ↓D.sub, ↓D.neg, ↓D.ix, ↓atI, ↓ixN, ↓D.mod, ↓D.kl, ↓Kl.sub, ↓Kl.subs, ↓Cn.fields, ↓cLt, ↓cLe, ↓cGe, ↓cGtA, ↓cIs, ↓cIsNot, ↓D.isNon, ↓D.items, ↓rng, ↓okR, ↓lim, ↓eq0, ↓dMeth, ↓dGet1, ↓keyD, ↓sFrz, ↓sOwn, ↓sApp, ↓dDrw0, ↓dDrw1, ↓sInc, ↓dLenS, ↓dIxS, ↓dNeS, ↓dPow, ↓bInt, ↓eqT]
    · have hp : 0 < b := Nat.pos_of_ne_zero hb
      have := ih b (a % b) (by have := Nat.mod_lt a (Nat.pos_of_ne_zero hb); omega)
      have ht : dBinB cGtA (dV 1) (dC (.int 0)) [.val (.int a), .val (.int b)] k = some (true, k) := by simp [↓runB, ↓runI, ↓startE, ↓startI, ↓sSeq, ↓sRet, ↓sRetN, ↓sIf, ↓sAsg, ↓sDrop, ↓sFail, ↓sNext, ↓sPar2, ↓sPar3, ↓sFor, ↓forLoop, ↓sMe, ↓M.bind, ↓M.pure, ↓M.lift, ↓M.fail, ↓dBi, ↓dLc, ↓lcLoop, ↓dZip, ↓zipD, ↓pairD, ↓dEnumA, ↓enumD, ↓rangeD, ↓dRng, ↓dItems, ↓dCons, ↓dNil, ↓dBin, ↓dBinB, ↓dTup, ↓dLst, ↓dUn, ↓dIf, ↓dAndB, ↓dOrB, ↓dAndV, ↓dOrV, ↓dNotV, ↓D.tru, ↓dNotB, ↓dVal, ↓dIsi, ↓dIsiT, ↓dFld, ↓dCall, ↓dMake, ↓dEq, ↓dEqB, ↓dEqD, ↓dV, ↓dVR, ↓dC, ↓dTrue, ↓dTru, ↓tgTup, ↓tgsCons, ↓tgName, ↓tgsNil, ↓wipeE, ↓bSum, ↓bLen, ↓bAbs, ↓bTup, ↓bLst, ↓bAll, ↓bAny, ↓intsD, ↓boolsD, ↓D.add, ↓D.sub, ↓D.neg, ↓D.ix, ↓atI, ↓ixN, ↓D.mod, ↓D.kl, ↓Kl.sub, ↓Kl.subs, ↓Cn.fields, ↓cLt, ↓cLe, ↓cGe, ↓cGtA, ↓cIs, ↓cIsNot, ↓D.isNon, ↓D.items, ↓rng, ↓okR, ↓lim, ↓eq0, ↓dMeth, ↓dGet1, ↓keyD, ↓sFrz, ↓sOwn, ↓sApp, ↓dDrw0, ↓dDrw1, ↓sInc, ↓dLenS, ↓dIxS, ↓dNeS, ↓dPow, ↓bInt, ↓eqT, hp]
      have step : (sSeq (sPar2 0 1 (dV 1) (dBin D.mod (dV 0) (dV 1))) sNext) [.val (.int a), .val (.int b)] k = some (.nx [.val (.int b), .val (.int ((a % b : Nat) : Int))], k) := by simp [↓runB, ↓runI, ↓startE, ↓startI, ↓sSeq, ↓sRet, ↓sRetN, ↓sIf, ↓sAsg, ↓sDrop, ↓sFail, ↓sNext, ↓sPar2, ↓sPar3, ↓sFor, ↓forLoop, ↓sMe, ↓M.bind, ↓M.pure, ↓M.lift, ↓M.fail, ↓dBi, ↓dLc, ↓lcLoop, ↓dZip, ↓zipD, ↓pairD, ↓dEnumA, ↓enumD, ↓rangeD, ↓dRng, ↓dItems, ↓dCons, ↓dNil, ↓dBin, ↓dBinB, ↓dTup, ↓dLst, ↓dUn, ↓dIf, ↓dAndB, ↓dOrB, ↓dAndV, ↓dOrV, ↓dNotV, ↓D.tru, ↓dNotB, ↓dVal, ↓dIsi, ↓dIsiT, ↓dFld, ↓dCall, ↓dMake, ↓dEq, ↓dEqB, ↓dEqD, ↓dV, ↓dVR, ↓dC, ↓dTrue, ↓dTru, ↓tgTup, ↓tgsCons, ↓tgName, ↓tgsNil, ↓wipeE, ↓bSum, ↓bLen, ↓bAbs, ↓bTup, ↓bLst, ↓bAll, ↓bAny, ↓intsD, ↓boolsD, ↓D.add, ↓D.sub, ↓D.neg, ↓D.ix, ↓atI, ↓ixN, ↓D.mod, ↓D.kl, ↓Kl.sub, ↓Kl.subs, ↓Cn.fields, ↓cLt, ↓cLe, ↓cGe, ↓cGtA, ↓cIs, ↓cIsNot, ↓D.isNon, ↓D.items, ↓rng, ↓okR, ↓lim, ↓eq0, ↓dMeth, ↓dGet1, ↓keyD, ↓sFrz, ↓sOwn, ↓sApp, ↓dDrw0, ↓dDrw1, ↓sInc, ↓dLenS, ↓dIxS, ↓dNeS, ↓dPow, ↓bInt, ↓eqT, hp]
      simp only [M.bind, ht, step, this]
      rw [Nat.gcd_comm b, ← Nat.gcd_rec, Nat.gcd_comm]
theorem common_spec {x y : Int} {k : Nat} : F_common [.int x, .int y] k = some (.int (Int.gcd x y), k) := by
  have ab : ∀ i : Int, (if i < 0 then -i else i) = ((i.natAbs : Nat) : Int) := fun i => by split <;> omega
  have := common_wh (k := k) (y.natAbs + 2) x.natAbs y.natAbs (by omega)
  simp [↓runB, ↓runI, ↓startE, ↓startI, ↓sSeq, ↓sRet, ↓sRetN, ↓sIf, ↓sAsg, ↓sDrop, ↓sFail, ↓sNext, ↓sPar2, ↓sPar3, ↓sFor, ↓forLoop, ↓sMe, ↓M.bind, ↓M.pure, ↓M.lift, ↓M.fail, ↓dBi, ↓dLc, ↓lcLoop, ↓dZip, ↓zipD, ↓pairD, ↓dEnumA, ↓enumD, ↓rangeD, ↓dRng, ↓dItems, ↓dCons, ↓dNil, ↓dBin, ↓dBinB, ↓dTup, ↓dLst, ↓dUn, ↓dIf, ↓dAndB, ↓dOrB, ↓dAndV, ↓dOrV, ↓dNotV, ↓D.tru, ↓dNotB, ↓dVal, ↓dIsi, ↓dIsiT, ↓dFld, ↓dCall, ↓dMake, ↓dEq, ↓dEqB, ↓dEqD, ↓dV, ↓dVR, ↓dC, ↓dTrue, ↓dTru, ↓tgTup, ↓tgsCons, ↓tgName, ↓tgsNil, ↓wipeE, ↓bSum, ↓bLen, ↓bAbs, ↓bTup, ↓bLst, ↓bAll, ↓bAny, ↓intsD, ↓boolsD, ↓D.add, ↓D.sub, ↓D.neg, ↓D.ix, ↓atI, ↓ixN, ↓D.mod, ↓D.kl, ↓Kl.sub, ↓Kl.subs, ↓Cn.fields, ↓cLt, ↓cLe, ↓cGe, ↓cGtA, ↓cIs, ↓cIsNot, ↓D.isNon, ↓D.items, ↓rng, ↓okR, ↓lim, ↓eq0, ↓dMeth, ↓dGet1, ↓keyD, ↓sFrz, ↓sOwn, ↓sApp, ↓dDrw0, ↓dDrw1, ↓sInc, ↓dLenS, ↓dIxS, ↓dNeS, ↓dPow, ↓bInt, ↓eqT, F_common, S_common, sWh, fuelI, ab, this, Int.gcd]
end Sky

end
section
namespace Sky
open PySem PySem.Spec PyProof.Rows L2
theorem mulOk_of {i j : Int} (h : i.natAbs < 18446744073709551616) : mulOk i j = true := by
  unfold mulOk
  rw [Bool.or_eq_true_iff]
  exact .inl (Nat.ble_eq_true_of_le h)
theorem divOk_of {j : Int} (h : 0 < j) (hb : j.natAbs < 2 ^ 64) : divOk j = true := by
  unfold divOk
  rw [Bool.and_eq_true_iff]
  refine ⟨decide_eq_true h, Nat.ble_eq_true_of_le ?_⟩
  have := (Nat.log2_lt (by omega)).2 hb
  omega
theorem is_triple_spec {a b c : Int} {k : Nat} : F_is_triple [v3 a b c] k = some (.bl (!decide (a = 0 ∧ b = 0 ∧ c = 0)), k) := by
  simp [↓runB, ↓runI, ↓startE, ↓startI, ↓sSeq, ↓sRet, ↓sRetN, ↓sIf, ↓sAsg, ↓sDrop, ↓sFail, ↓sNext, ↓sPar2, ↓sPar3, ↓sFor, ↓forLoop, ↓sMe, ↓M.bind, ↓M.pure, ↓M.lift, ↓M.fail, ↓dBi, ↓dLc, ↓lcLoop, ↓dZip, ↓zipD, ↓pairD, ↓dEnumA, ↓enumD, ↓rangeD, ↓dRng, ↓dItems, ↓dCons, ↓dNil, ↓dBin, ↓dBinB, ↓dTup, ↓dLst, ↓dUn, ↓dIf, ↓dAndB, ↓dOrB, ↓dAndV, ↓dOrV, ↓dNotV, ↓D.tru, ↓dNotB, ↓dVal, ↓dIsi, ↓dIsiT, ↓dFld, ↓dCall, ↓dMake, ↓dEq, ↓dEqB, ↓dEqD, ↓dV, ↓dVR, ↓dC, ↓dTrue, ↓dTru, ↓tgTup, ↓tgsCons, ↓tgName, ↓tgsNil, ↓wipeE, ↓bSum, ↓bLen, ↓bAbs, ↓bTup, ↓bLst, ↓bAll, ↓bAny, ↓intsD, ↓boolsD, ↓D.add, ↓D.sub, ↓D.neg, ↓D.ix, ↓atI, ↓ixN, ↓D.mod, ↓D.kl, ↓Kl.sub, ↓Kl.subs, ↓Cn.fields, ↓cLt, ↓cLe, ↓cGe, ↓cGtA, ↓cIs, ↓cIsNot, ↓D.isNon, ↓D.items, ↓rng, ↓okR, ↓lim, ↓eq0, ↓dMeth, ↓dGet1, ↓keyD, ↓sFrz, ↓sOwn, ↓sApp, ↓dDrw0, ↓dDrw1, ↓sInc, ↓dLenS, ↓dIxS, ↓dNeS, ↓dPow, ↓bInt, ↓eqT, F_is_triple, S_is_triple]
theorem check_triple_spec {p : D} {a b c : Int} {k : Nat} (h : ¬ (a = 0 ∧ b = 0 ∧ c = 0)) : F_check_triple [p, v3 a b c] k = some (.non, k) := by
  simp [↓runB, ↓runI, ↓startE, ↓startI, ↓sSeq, ↓sRet, ↓sRetN, ↓sIf, ↓sAsg, ↓sDrop, ↓sFail, ↓sNext, ↓sPar2, ↓sPar3, ↓sFor, ↓forLoop, ↓sMe, ↓M.bind, ↓M.pure, ↓M.lift, ↓M.fail, ↓dBi, ↓dLc, ↓lcLoop, ↓dZip, ↓zipD, ↓pairD, ↓dEnumA, ↓enumD, ↓rangeD, ↓dRng, ↓dItems, ↓dCons, ↓dNil, ↓dBin, ↓dBinB, ↓dTup, ↓dLst, ↓dUn, ↓dIf, ↓dAndB, ↓dOrB, ↓dAndV, ↓dOrV, ↓dNotV, ↓D.tru, ↓dNotB, ↓dVal, ↓dIsi, ↓dIsiT, ↓dFld, ↓dCall, ↓dMake, ↓dEq, ↓dEqB, ↓dEqD, ↓dV, ↓dVR, ↓dC, ↓dTrue, ↓dTru, ↓tgTup, ↓tgsCons, ↓tgName, ↓tgsNil, ↓wipeE, ↓bSum, ↓bLen, ↓bAbs, ↓bTup, ↓bLst, ↓bAll, ↓bAny, ↓intsD, ↓boolsD, ↓D.add, ↓D.sub, ↓D.neg, ↓D.ix, ↓atI, ↓ixN, ↓D.mod, ↓D.kl, ↓Kl.sub, ↓Kl.subs, ↓Cn.fields, ↓cLt, ↓cLe, ↓cGe, ↓cGtA, ↓cIs, ↓cIsNot, ↓D.isNon, ↓D.items, ↓rng, ↓okR, ↓lim, ↓eq0, ↓dMeth, ↓dGet1, ↓keyD, ↓sFrz, ↓sOwn, ↓sApp, ↓dDrw0, ↓dDrw1, ↓sInc, ↓dLenS, ↓dIxS, ↓dNeS, ↓dPow, ↓bInt, ↓eqT, F_check_triple, S_check_triple, is_triple_spec, h]
abbrev g3 (a b c : Int) : Int := ((Int.gcd (Int.gcd a b) c : Nat) : Int)
theorem least_spec {a b c : Int} {k : Nat} (h : ¬ (a = 0 ∧ b = 0 ∧ c = 0)) (hd : divOk (g3 a b c) = true) : F_least [v3 a b c] k = some (v3 (a / g3 a b c) (b / g3 a b c) (c / g3 a b c), k) := by
  simp [↓runB, ↓runI, ↓startE, ↓startI, ↓sSeq, ↓sRet, ↓sRetN, ↓sIf, ↓sAsg, ↓sDrop, ↓sFail, ↓sNext, ↓sPar2, ↓sPar3, ↓sFor, ↓forLoop, ↓sMe, ↓M.bind, ↓M.pure, ↓M.lift, ↓M.fail, ↓dBi, ↓dLc, ↓lcLoop, ↓dZip, ↓zipD, ↓pairD, ↓dEnumA, ↓enumD, ↓rangeD, ↓dRng, ↓dItems, ↓dCons, ↓dNil, ↓dBin, ↓dBinB, ↓dTup, ↓dLst, ↓dUn, ↓dIf, ↓dAndB, ↓dOrB, ↓dAndV, ↓dOrV, ↓dNotV, ↓D.tru, ↓dNotB, ↓dVal, ↓dIsi, ↓dIsiT, ↓dFld, ↓dCall, ↓dMake, ↓dEq, ↓dEqB, ↓dEqD, ↓dV, ↓dVR, ↓dC, ↓dTrue, ↓dTru, ↓tgTup, ↓tgsCons, ↓tgName, ↓tgsNil, ↓wipeE, ↓bSum, ↓bLen, ↓bAbs, ↓bTup, ↓bLst, ↓bAll, ↓bAny, ↓intsD, ↓boolsD, ↓D.add, ↓D.sub, ↓D.neg, ↓D.ix, ↓atI, ↓ixN, ↓D.mod, ↓D.kl, ↓Kl.sub, ↓Kl.subs, ↓Cn.fields, ↓cLt, ↓cLe, ↓cGe, ↓cGtA, ↓cIs, ↓cIsNot, ↓D.isNon, ↓D.items, ↓rng, ↓okR, ↓lim, ↓eq0, ↓dMeth, ↓dGet1, ↓keyD, ↓sFrz, ↓sOwn, ↓sApp, ↓dDrw0, ↓dDrw1, ↓sInc, ↓dLenS, ↓dIxS, ↓dNeS, ↓dPow, ↓bInt, ↓eqT, F_least, S_least, check_triple_spec h, common_spec, fdiv_ok hd]
theorem cross_spec {a b c x y z : Int} {k : Nat} (h1 : mulOk b z = true) (h2 : mulOk c y = true) (h3 : mulOk c x = true) (h4 : mulOk a z = true) (h5 : mulOk a y = true) (h6 : mulOk b x = true) :
    F_cross [v3 a b c, v3 x y z] k = some (v3 (b * z - c * y) (c * x - a * z) (a * y - b * x), k) := by
  simp [↓runB, ↓runI, ↓startE, ↓startI, ↓sSeq, ↓sRet, ↓sRetN, ↓sIf, ↓sAsg, ↓sDrop, ↓sFail, ↓sNext, ↓sPar2, ↓sPar3, ↓sFor, ↓forLoop, ↓sMe, ↓M.bind, ↓M.pure, ↓M.lift, ↓M.fail, ↓dBi, ↓dLc, ↓lcLoop, ↓dZip, ↓zipD, ↓pairD, ↓dEnumA, ↓enumD, ↓rangeD, ↓dRng, ↓dItems, ↓dCons, ↓dNil, ↓dBin, ↓dBinB, ↓dTup, ↓dLst, ↓dUn, ↓dIf, ↓dAndB, ↓dOrB, ↓dAndV, ↓dOrV, ↓dNotV, ↓D.tru, ↓dNotB, ↓dVal, ↓dIsi, ↓dIsiT, ↓dFld, ↓dCall, ↓dMake, ↓dEq, ↓dEqB, ↓dEqD, ↓dV, ↓dVR, ↓dC, ↓dTrue, ↓dTru, ↓tgTup, ↓tgsCons, ↓tgName, ↓tgsNil, ↓wipeE, ↓bSum, ↓bLen, ↓bAbs, ↓bTup, ↓bLst, ↓bAll, ↓bAny, ↓intsD, ↓boolsD, ↓D.add, ↓D.sub, ↓D.neg, ↓D.ix, ↓atI, ↓ixN, ↓D.mod, ↓D.kl, ↓Kl.sub, ↓Kl.subs, ↓Cn.fields, ↓cLt, ↓cLe, ↓cGe, ↓cGtA, ↓cIs, ↓cIsNot, ↓D.isNon, ↓D.items, ↓rng, ↓okR, ↓lim, ↓eq0, ↓dMeth, ↓dGet1, ↓keyD, ↓sFrz, ↓sOwn, ↓sApp, ↓dDrw0, ↓dDrw1, ↓sInc, ↓dLenS, ↓dIxS, ↓dNeS, ↓dPow, ↓bInt, ↓eqT, F_cross, S_cross, mul_ok h1, mul_ok h2, mul_ok h3, mul_ok h4, mul_ok h5, mul_ok h6]
structure M9 where
  a : Int
  b : Int
  c : Int
  d : Int
  e : Int
  f : Int
  g : Int
  h : Int
  i : Int
  deriving DecidableEq
abbrev M9.rows (m : M9) : List D := [v3 m.a m.b m.c, v3 m.d m.e m.f, v3 m.g m.h m.i]
abbrev tnD (m : M9) (w : Int) : D := .ins .Turn [.tup m.rows, .int w]
structure M9.Orth (m : M9) (w : Int) : Prop where
  aa : m.a * m.a + m.b * m.b + m.c * m.c = w * w
  bb : m.d * m.d + m.e * m.e + m.f * m.f = w * w
  cc : m.g * m.g + m.h * m.h + m.i * m.i = w * w
  ab : m.a * m.d + m.b * m.e + m.c * m.f = 0
  ac : m.a * m.g + m.b * m.h + m.c * m.i = 0
  bc : m.d * m.g + m.e * m.h + m.f * m.i = 0
structure M9.Sm (m : M9) (n : Nat) : Prop where
  a : m.a.natAbs < n
  b : m.b.natAbs < n
  c : m.c.natAbs < n
  d : m.d.natAbs < n
  e : m.e.natAbs < n
  f : m.f.natAbs < n
  g : m.g.natAbs < n
  h : m.h.natAbs < n
  i : m.i.natAbs < n
def M9.gc (m : M9) (w : Int) : Int := Int.gcd (Int.gcd (Int.gcd (Int.gcd (Int.gcd (Int.gcd (Int.gcd (Int.gcd (Int.gcd w m.a) m.b) m.c) m.d) m.e) m.f) m.g) m.h) m.i
def M9.dv (m : M9) (g : Int) : M9 := ⟨m.a / g, m.b / g, m.c / g, m.d / g, m.e / g, m.f / g, m.g / g, m.h / g, m.i / g⟩
set_option maxHeartbeats 4000000 in
theorem turn_init {m : M9} {w : Int} {k : Nat} (o : m.Orth w) (s : m.Sm 18446744073709551616) (hw : 0 < w) (hs : w.natAbs < 18446744073709551616) (hd : divOk (m.gc w) = true) :
    FI_Turn [.lst m.rows, .int w] k = some ([.tup (m.dv (m.gc w)).rows, .int (w / m.gc w)], k) := by
  have d11 : F_dot [v3 m.a m.b m.c, v3 m.a m.b m.c] k = some (.int (w * w), k) := by rw [dot_spec (mulOk_of s.a) (mulOk_of s.b) (mulOk_of s.c), o.aa]
  have d22 : F_dot [v3 m.d m.e m.f, v3 m.d m.e m.f] k = some (.int (w * w), k) := by rw [dot_spec (mulOk_of s.d) (mulOk_of s.e) (mulOk_of s.f), o.bb]
  have d33 : F_dot [v3 m.g m.h m.i, v3 m.g m.h m.i] k = some (.int (w * w), k) := by rw [dot_spec (mulOk_of s.g) (mulOk_of s.h) (mulOk_of s.i), o.cc]
  have d12 : F_dot [v3 m.a m.b m.c, v3 m.d m.e m.f] k = some (.int 0, k) := by rw [dot_spec (mulOk_of s.a) (mulOk_of s.b) (mulOk_of s.c), o.ab]
  have d13 : F_dot [v3 m.a m.b m.c, v3 m.g m.h m.i] k = some (.int 0, k) := by rw [dot_spec (mulOk_of s.a) (mulOk_of s.b) (mulOk_of s.c), o.ac]
  have d23 : F_dot [v3 m.d m.e m.f, v3 m.g m.h m.i] k = some (.int 0, k) := by rw [dot_spec (mulOk_of s.d) (mulOk_of s.e) (mulOk_of s.f), o.bc]
  have d21 : F_dot [v3 m.d m.e m.f, v3 m.a m.b m.c] k = some (.int 0, k) := by rw [dot_spec (mulOk_of s.d) (mulOk_of s.e) (mulOk_of s.f), ← o.ab]; simp [Int.mul_comm]
  have d31 : F_dot [v3 m.g m.h m.i, v3 m.a m.b m.c] k = some (.int 0, k) := by rw [dot_spec (mulOk_of s.g) (mulOk_of s.h) (mulOk_of s.i), ← o.ac]; simp [Int.mul_comm]
  have d32 : F_dot [v3 m.g m.h m.i, v3 m.d m.e m.f] k = some (.int 0, k) := by rw [dot_spec (mulOk_of s.g) (mulOk_of s.h) (mulOk_of s.i), ← o.bc]; simp [Int.mul_comm]
  have hw1 : ¬ w < 1 := by omega
  have hr : (List.range 3) = [0, 1, 2] := rfl
  unfold M9.gc at hd
  simp [↓runB, ↓runI, ↓startE, ↓startI, ↓sSeq, ↓sRet, ↓sRetN, ↓sIf, ↓sAsg, ↓sDrop, ↓sFail, ↓sNext, ↓sPar2, ↓sPar3, ↓sFor, ↓forLoop, ↓sMe, ↓M.bind, ↓M.pure, ↓M.lift, ↓M.fail, ↓dBi, ↓dLc, ↓lcLoop, ↓dZip, ↓zipD, ↓pairD, ↓dEnumA, ↓enumD, ↓rangeD, ↓dRng, ↓dItems, ↓dCons, ↓dNil, ↓dBin, ↓dBinB, ↓dTup, ↓dLst, ↓dUn, ↓dIf, ↓dAndB, ↓dOrB, ↓dAndV, ↓dOrV, ↓dNotV, ↓D.tru, ↓dNotB, ↓dVal, ↓dIsi, ↓dIsiT, ↓dFld, ↓dCall, ↓dMake, ↓dEq, ↓dEqB, ↓dEqD, ↓dV, ↓dVR, ↓dC, ↓dTrue, ↓dTru, ↓tgTup, ↓tgsCons, ↓tgName, ↓tgsNil, ↓wipeE, ↓bSum, ↓bLen, ↓bAbs, ↓bTup, ↓bLst, ↓bAll, ↓bAny, ↓intsD, ↓boolsD, ↓D.add, ↓D.sub, ↓D.neg, ↓D.ix, ↓atI, ↓ixN, ↓D.mod, ↓D.kl, ↓Kl.sub, ↓Kl.subs, ↓Cn.fields, ↓cLt, ↓cLe, ↓cGe, ↓cGtA, ↓cIs, ↓cIsNot, ↓D.isNon, ↓D.items, ↓rng, ↓okR, ↓lim, ↓eq0, ↓dMeth, ↓dGet1, ↓keyD, ↓sFrz, ↓sOwn, ↓sApp, ↓dDrw0, ↓dDrw1, ↓sInc, ↓dLenS, ↓dIxS, ↓dNeS, ↓dPow, ↓bInt, ↓eqT, FI_Turn, S_Turn___init__, hr, d11, d22, d33, d12, d13, d23, d21, d31, d32, hw1, mul_ok (mulOk_of hs), common_spec, fdiv_ok hd, M9.dv, M9.gc]
end Sky

end
section
namespace Sky
open PySem PySem.Spec PyProof.Rows L2
def gcN (m : M9) (w : Int) : Nat := Nat.gcd (Nat.gcd (Nat.gcd (Nat.gcd (Nat.gcd (Nat.gcd (Nat.gcd (Nat.gcd (Nat.gcd w.natAbs m.a.natAbs) m.b.natAbs) m.c.natAbs) m.d.natAbs) m.e.natAbs) m.f.natAbs) m.g.natAbs) m.h.natAbs) m.i.natAbs
theorem gc_eq (m : M9) (w : Int) : m.gc w = (gcN m w : Nat) := by
  simp [M9.gc, gcN, Int.gcd]
theorem dvd_gcN {m : M9} {w : Int} {d : Nat} : d ∣ gcN m w ↔ d ∣ w.natAbs ∧ d ∣ m.a.natAbs ∧ d ∣ m.b.natAbs ∧ d ∣ m.c.natAbs ∧ d ∣ m.d.natAbs ∧ d ∣ m.e.natAbs ∧ d ∣ m.f.natAbs ∧ d ∣ m.g.natAbs ∧ d ∣ m.h.natAbs ∧ d ∣ m.i.natAbs := by
  unfold gcN
  simp only [Nat.dvd_gcd_iff]
  constructor
  · rintro ⟨⟨⟨⟨⟨⟨⟨⟨⟨h0, h1⟩, h2⟩, h3⟩, h4⟩, h5⟩, h6⟩, h7⟩, h8⟩, h9⟩
    exact ⟨h0, h1, h2, h3, h4, h5, h6, h7, h8, h9⟩
  · rintro ⟨h0, h1, h2, h3, h4, h5, h6, h7, h8, h9⟩
    exact ⟨⟨⟨⟨⟨⟨⟨⟨⟨h0, h1⟩, h2⟩, h3⟩, h4⟩, h5⟩, h6⟩, h7⟩, h8⟩, h9⟩
theorem gcN_pos {m : M9} {w : Int} (h : 0 < w) : 0 < gcN m w := by
  have := (dvd_gcN (m := m) (w := w)).mp (Nat.dvd_refl _)
  exact Nat.pos_of_dvd_of_pos this.1 (by omega)
def M9.sc (m : M9) (c : Int) : M9 := ⟨c * m.a, c * m.b, c * m.c, c * m.d, c * m.e, c * m.f, c * m.g, c * m.h, c * m.i⟩
def M9.tr (m : M9) : M9 := ⟨m.a, m.d, m.g, m.b, m.e, m.h, m.c, m.f, m.i⟩
/-- m' after m -/
def M9.mul (n m : M9) : M9 := ⟨n.a * m.a + n.b * m.d + n.c * m.g, n.a * m.b + n.b * m.e + n.c * m.h, n.a * m.c + n.b * m.f + n.c * m.i,
  n.d * m.a + n.e * m.d + n.f * m.g, n.d * m.b + n.e * m.e + n.f * m.h, n.d * m.c + n.e * m.f + n.f * m.i,
  n.g * m.a + n.h * m.d + n.i * m.g, n.g * m.b + n.h * m.e + n.i * m.h, n.g * m.c + n.h * m.f + n.i * m.i⟩
/-- the turn in lowest terms -/
def TNf (m : M9) (w : Int) : List D := [.tup (m.dv (m.gc w)).rows, .int (w / m.gc w)]
@[simp] theorem TNf_len {m : M9} {w : Int} : (TNf m w).length = 2 := rfl
def TN (m : M9) (w : Int) : D := .ins .Turn (TNf m w)
@[simp] theorem fld_rows {r w : D} : D.fld "rows" (.ins .Turn [r, w]) = some r := rfl
@[simp] theorem fld_below {r w : D} : D.fld "below" (.ins .Turn [r, w]) = some w := rfl
theorem TN_def {m : M9} {w : Int} : TN m w = tnD (m.dv (m.gc w)) (w / m.gc w) := rfl
theorem gcN_sc {m : M9} {w c : Int} (hc : 0 < c) : gcN (m.sc c) (c * w) = c.natAbs * gcN m w := by
  simp [gcN, M9.sc, Int.natAbs_mul, Nat.gcd_mul_left]
theorem dv_sc {m : M9} {c g : Int} (hc : 0 < c) : (m.sc c).dv (c * g) = m.dv g := by
  have e : ∀ x : Int, c * x / (c * g) = x / g := fun x => Int.mul_ediv_mul_of_pos x g hc
  simp [M9.sc, M9.dv, e]
theorem TN_sc {m : M9} {w c : Int} (hc : 0 < c) : TN (m.sc c) (c * w) = TN m w := by
  have e : (m.sc c).gc (c * w) = c * m.gc w := by
    rw [gc_eq, gc_eq, gcN_sc hc]
    have : ((c.natAbs : Nat) : Int) = c := by omega
    rw [Int.natCast_mul, this]
  rw [TN_def, TN_def, e, dv_sc hc, Int.mul_ediv_mul_of_pos _ _ hc]
theorem TN_eq {m n : M9} {w v p q : Int} (hp : 0 < p) (hq : 0 < q) (h : m.sc p = n.sc q) (hw : p * w = q * v) : TN m w = TN n v := by
  rw [← TN_sc (m := m) (w := w) hp, ← TN_sc (m := n) (w := v) hq, h, hw]
/-- in lowest terms -/
def Low (m : M9) (w : Int) : Prop := gcN m w = 1
theorem dv_of {m : M9} {w : Int} (h : 0 < w) : (m.dv (m.gc w)).sc (m.gc w) = m ∧ m.gc w * (w / m.gc w) = w ∧ 0 < m.gc w ∧ Low (m.dv (m.gc w)) (w / m.gc w) := by
  have hg := gcN_pos (m := m) h
  have hd := (dvd_gcN (m := m) (w := w)).mp (Nat.dvd_refl _)
  obtain ⟨h0, h1, h2, h3, h4, h5, h6, h7, h8, h9⟩ := hd
  have key : ∀ x : Int, gcN m w ∣ x.natAbs → (gcN m w : Int) * (x / (gcN m w : Int)) = x := fun x hx => Int.mul_ediv_cancel' (Int.ofNat_dvd_left.mpr hx)
  have e1 : (m.dv (m.gc w)).sc (m.gc w) = m := by
    rw [gc_eq]
    simp [M9.dv, M9.sc, key, h1, h2, h3, h4, h5, h6, h7, h8, h9]
  have e2 : m.gc w * (w / m.gc w) = w := by rw [gc_eq]; exact key w h0
  have e3 : 0 < m.gc w := by rw [gc_eq]; omega
  refine ⟨e1, e2, e3, ?_⟩
  have := gcN_sc (m := m.dv (m.gc w)) (w := w / m.gc w) e3
  rw [e1, e2] at this
  have e4 : (m.gc w).natAbs = gcN m w := by rw [gc_eq]; simp
  rw [e4] at this
  unfold Low
  have h' : gcN m w * 1 = gcN m w * gcN (m.dv (m.gc w)) (w / m.gc w) := by rw [Nat.mul_one]; exact this
  exact (Nat.eq_of_mul_eq_mul_left hg h').symm
theorem Low.tr {m : M9} {w : Int} (h : Low m w) : Low m.tr w := by
  unfold Low at *
  have h2 : gcN m.tr w ∣ gcN m w := by
    obtain ⟨h0, h1, h2, h3, h4, h5, h6, h7, h8, h9⟩ := (dvd_gcN (m := m.tr) (w := w)).mp (Nat.dvd_refl _)
    exact dvd_gcN.mpr ⟨h0, h1, h4, h7, h2, h5, h8, h3, h6, h9⟩
  rw [h] at h2
  exact Nat.dvd_one.mp h2
theorem Low.TN {m : M9} {w : Int} (h : Low m w) : TN m w = tnD m w := by
  rw [TN_def, gc_eq, h]
  simp [M9.dv]
/-- a turn: rows and columns at right angles -/
structure Va (m : M9) (w : Int) : Prop where
  o : m.Orth w
  t : m.tr.Orth w
  p : 0 < w
theorem Va.tr {m : M9} {w : Int} (v : Va m w) : Va m.tr w := ⟨v.t, v.o, v.p⟩
theorem Va.sc {m : M9} {w c : Int} (v : Va m w) (hc : 0 < c) : Va (m.sc c) (c * w) := by
  obtain ⟨⟨o1, o2, o3, o4, o5, o6⟩, ⟨t1, t2, t3, t4, t5, t6⟩, p⟩ := v
  simp only [M9.tr] at t1 t2 t3 t4 t5 t6
  refine ⟨⟨?_, ?_, ?_, ?_, ?_, ?_⟩, ⟨?_, ?_, ?_, ?_, ?_, ?_⟩, Int.mul_pos hc p⟩ <;> simp only [M9.sc, M9.tr] <;> grind
theorem Va.of_sc {m : M9} {w c : Int} (v : Va (m.sc c) (c * w)) (hc : 0 < c) : Va m w := by
  obtain ⟨⟨o1, o2, o3, o4, o5, o6⟩, ⟨t1, t2, t3, t4, t5, t6⟩, p⟩ := v
  simp only [M9.tr, M9.sc] at o1 o2 o3 o4 o5 o6 t1 t2 t3 t4 t5 t6
  have can : ∀ x y : Int, c * c * x = c * c * y → x = y := fun x y h => Int.eq_of_mul_eq_mul_left (by have := Int.mul_pos hc hc; omega) h
  refine ⟨⟨?_, ?_, ?_, ?_, ?_, ?_⟩, ⟨?_, ?_, ?_, ?_, ?_, ?_⟩, Int.pos_of_mul_pos_right p (by omega)⟩ <;> (try simp only [M9.tr]) <;> refine can _ _ ?_ <;> grind
theorem Va.dv {m : M9} {w : Int} (v : Va m w) : Va (m.dv (m.gc w)) (w / m.gc w) := by
  obtain ⟨e1, e2, e3, _⟩ := dv_of (m := m) v.p
  refine Va.of_sc (c := m.gc w) ?_ e3
  rw [e1, e2]; exact v
theorem Va.mul {n m : M9} {w u : Int} (v : Va n w) (v' : Va m u) : Va (n.mul m) (w * u) := by
  obtain ⟨⟨o1, o2, o3, o4, o5, o6⟩, ⟨t1, t2, t3, t4, t5, t6⟩, p⟩ := v
  obtain ⟨⟨a1, a2, a3, a4, a5, a6⟩, ⟨b1, b2, b3, b4, b5, b6⟩, p'⟩ := v'
  simp only [M9.tr] at t1 t2 t3 t4 t5 t6 b1 b2 b3 b4 b5 b6
  refine ⟨⟨?_, ?_, ?_, ?_, ?_, ?_⟩, ⟨?_, ?_, ?_, ?_, ?_, ?_⟩, Int.mul_pos p p'⟩ <;> simp only [M9.mul, M9.tr] <;> grind
end Sky

end
section
namespace Sky
open PySem PySem.Spec PyProof.Rows L2
theorem sq_le {a w : Int} (h : a * a ≤ w * w) : a.natAbs ≤ w.natAbs := by
  have h1 : a.natAbs * a.natAbs ≤ w.natAbs * w.natAbs := by
    have : ((a.natAbs * a.natAbs : Nat) : Int) ≤ ((w.natAbs * w.natAbs : Nat) : Int) := by simp only [Int.natCast_mul, Int.natAbs_mul_self', Int.natAbs_mul_self]; exact h
    exact Int.ofNat_le.mp this
  exact Nat.le_of_not_lt fun z => by
    have := Nat.mul_lt_mul'' z z
    omega
theorem sq_nn (a : Int) : 0 ≤ a * a := by
  rcases Int.le_total 0 a with h | h
  · exact Int.mul_nonneg h h
  · exact Int.mul_nonneg_of_nonpos_of_nonpos h h
theorem Va.sm {m : M9} {w : Int} (v : Va m w) : m.a.natAbs ≤ w.natAbs ∧ m.b.natAbs ≤ w.natAbs ∧ m.c.natAbs ≤ w.natAbs ∧ m.d.natAbs ≤ w.natAbs ∧ m.e.natAbs ≤ w.natAbs ∧ m.f.natAbs ≤ w.natAbs ∧ m.g.natAbs ≤ w.natAbs ∧ m.h.natAbs ≤ w.natAbs ∧ m.i.natAbs ≤ w.natAbs := by
  obtain ⟨⟨o1, o2, o3, o4, o5, o6⟩, t, p⟩ := v
  have a1 := sq_nn m.a; have a2 := sq_nn m.b; have a3 := sq_nn m.c
  have b1 := sq_nn m.d; have b2 := sq_nn m.e; have b3 := sq_nn m.f
  have c1 := sq_nn m.g; have c2 := sq_nn m.h; have c3 := sq_nn m.i
  refine ⟨sq_le ?_, sq_le ?_, sq_le ?_, sq_le ?_, sq_le ?_, sq_le ?_, sq_le ?_, sq_le ?_, sq_le ?_⟩ <;> omega
theorem Va.sm9 {m : M9} {w : Int} {n : Nat} (v : Va m w) (h : w.natAbs < n) : m.Sm n := by
  obtain ⟨h1, h2, h3, h4, h5, h6, h7, h8, h9⟩ := v.sm
  exact ⟨by omega, by omega, by omega, by omega, by omega, by omega, by omega, by omega, by omega⟩
theorem gc_le {m : M9} {w : Int} (h : 0 < w) : (m.gc w).natAbs ≤ w.natAbs := by
  rw [gc_eq]
  have := (dvd_gcN (m := m) (w := w)).mp (Nat.dvd_refl _)
  simpa using Nat.le_of_dvd (by omega) this.1
theorem turn_mk {m : M9} {w : Int} {k : Nat} (v : Va m w) (h : w.natAbs < 18446744073709551616) : FI_Turn [.lst m.rows, .int w] k = some (TNf m w, k) :=
  turn_init v.o (v.sm9 h) v.p h (divOk_of (dv_of v.p).2.2.1 (Nat.lt_of_le_of_lt (gc_le v.p) h))
theorem check_turn_spec {fs : List D} {k : Nat} : F_check_turn [.ins .Turn fs] k = some (.non, k) := by
  simp [↓runB, ↓runI, ↓startE, ↓startI, ↓sSeq, ↓sRet, ↓sRetN, ↓sIf, ↓sAsg, ↓sDrop, ↓sFail, ↓sNext, ↓sPar2, ↓sPar3, ↓sFor, ↓forLoop, ↓sMe, ↓M.bind, ↓M.pure, ↓M.lift, ↓M.fail, ↓dBi, ↓dLc, ↓lcLoop, ↓dZip, ↓zipD, ↓pairD, ↓dEnumA, ↓enumD, ↓rangeD, ↓dRng, ↓dItems, ↓dCons, ↓dNil, ↓dBin, ↓dBinB, ↓dTup, ↓dLst, ↓dUn, ↓dIf, ↓dAndB, ↓dOrB, ↓dAndV, ↓dOrV, ↓dNotV, ↓D.tru, ↓dNotB, ↓dVal, ↓dIsi, ↓dIsiT, ↓dFld, ↓dCall, ↓dMake, ↓dEq, ↓dEqB, ↓dEqD, ↓dV, ↓dVR, ↓dC, ↓dTrue, ↓dTru, ↓tgTup, ↓tgsCons, ↓tgName, ↓tgsNil, ↓wipeE, ↓bSum, ↓bLen, ↓bAbs, ↓bTup, ↓bLst, ↓bAll, ↓bAny, ↓intsD, ↓boolsD, ↓D.add, ↓D.sub, ↓D.neg, ↓D.ix, ↓atI, ↓ixN, ↓D.mod, ↓D.kl, ↓Kl.sub, ↓Kl.subs, ↓Cn.fields, ↓cLt, ↓cLe, ↓cGe, ↓cGtA, ↓cIs, ↓cIsNot, ↓D.isNon, ↓D.items, ↓rng, ↓okR, ↓lim, ↓eq0, ↓dMeth, ↓dGet1, ↓keyD, ↓sFrz, ↓sOwn, ↓sApp, ↓dDrw0, ↓dDrw1, ↓sInc, ↓dLenS, ↓dIxS, ↓dNeS, ↓dPow, ↓bInt, ↓eqT, F_check_turn, S_check_turn]
theorem back_spec {m : M9} {w : Int} {k : Nat} (v : Va m w) (h : w.natAbs < 18446744073709551616) : F_back [tnD m w] k = some (TN m.tr w, k) := by
  have h2 := turn_mk (k := k) v.tr h
  have hr : (List.range 3) = [0, 1, 2] := rfl
  simp only [M9.rows] at h2
  unfold M9.tr at h2
  simp [↓runB, ↓runI, ↓startE, ↓startI, ↓sSeq, ↓sRet, ↓sRetN, ↓sIf, ↓sAsg, ↓sDrop, ↓sFail, ↓sNext, ↓sPar2, ↓sPar3, ↓sFor, ↓forLoop, ↓sMe, ↓M.bind, ↓M.pure, ↓M.lift, ↓M.fail, ↓dBi, ↓dLc, ↓lcLoop, ↓dZip, ↓zipD, ↓pairD, ↓dEnumA, ↓enumD, ↓rangeD, ↓dRng, ↓dItems, ↓dCons, ↓dNil, ↓dBin, ↓dBinB, ↓dTup, ↓dLst, ↓dUn, ↓dIf, ↓dAndB, ↓dOrB, ↓dAndV, ↓dOrV, ↓dNotV, ↓D.tru, ↓dNotB, ↓dVal, ↓dIsi, ↓dIsiT, ↓dFld, ↓dCall, ↓dMake, ↓dEq, ↓dEqB, ↓dEqD, ↓dV, ↓dVR, ↓dC, ↓dTrue, ↓dTru, ↓tgTup, ↓tgsCons, ↓tgName, ↓tgsNil, ↓wipeE, ↓bSum, ↓bLen, ↓bAbs, ↓bTup, ↓bLst, ↓bAll, ↓bAny, ↓intsD, ↓boolsD, ↓D.add, ↓D.sub, ↓D.neg, ↓D.ix, ↓atI, ↓ixN, ↓D.mod, ↓D.kl, ↓Kl.sub, ↓Kl.subs, ↓Cn.fields, ↓cLt, ↓cLe, ↓cGe, ↓cGtA, ↓cIs, ↓cIsNot, ↓D.isNon, ↓D.items, ↓rng, ↓okR, ↓lim, ↓eq0, ↓dMeth, ↓dGet1, ↓keyD, ↓sFrz, ↓sOwn, ↓sApp, ↓dDrw0, ↓dDrw1, ↓sInc, ↓dLenS, ↓dIxS, ↓dNeS, ↓dPow, ↓bInt, ↓eqT, F_back, S_back, check_turn_spec, hr, h2, TN, M9.tr]
theorem then_spec {m n : M9} {w u : Int} {k : Nat} (v : Va m w) (v' : Va n u) (lo : Low m w) (h : (u * w).natAbs < 18446744073709551616) (hw : w.natAbs < 18446744073709551616) (hu : u.natAbs < 18446744073709551616) :
    F_then [tnD m w, tnD n u] k = some (TN (n.mul m) (u * w), k) := by
  have h2 := turn_mk (k := k) (v'.mul v) h
  have hb := back_spec (k := k) v hw
  rw [lo.tr.TN] at hb
  have s := v.sm9 hw
  have s' := v'.sm9 hu
  have e : w * u = u * w := Int.mul_comm _ _
  simp only [M9.rows] at h2
  unfold M9.mul at h2
  unfold M9.tr at hb
  simp [↓runB, ↓runI, ↓startE, ↓startI, ↓sSeq, ↓sRet, ↓sRetN, ↓sIf, ↓sAsg, ↓sDrop, ↓sFail, ↓sNext, ↓sPar2, ↓sPar3, ↓sFor, ↓forLoop, ↓sMe, ↓M.bind, ↓M.pure, ↓M.lift, ↓M.fail, ↓dBi, ↓dLc, ↓lcLoop, ↓dZip, ↓zipD, ↓pairD, ↓dEnumA, ↓enumD, ↓rangeD, ↓dRng, ↓dItems, ↓dCons, ↓dNil, ↓dBin, ↓dBinB, ↓dTup, ↓dLst, ↓dUn, ↓dIf, ↓dAndB, ↓dOrB, ↓dAndV, ↓dOrV, ↓dNotV, ↓D.tru, ↓dNotB, ↓dVal, ↓dIsi, ↓dIsiT, ↓dFld, ↓dCall, ↓dMake, ↓dEq, ↓dEqB, ↓dEqD, ↓dV, ↓dVR, ↓dC, ↓dTrue, ↓dTru, ↓tgTup, ↓tgsCons, ↓tgName, ↓tgsNil, ↓wipeE, ↓bSum, ↓bLen, ↓bAbs, ↓bTup, ↓bLst, ↓bAll, ↓bAny, ↓intsD, ↓boolsD, ↓D.add, ↓D.sub, ↓D.neg, ↓D.ix, ↓atI, ↓ixN, ↓D.mod, ↓D.kl, ↓Kl.sub, ↓Kl.subs, ↓Cn.fields, ↓cLt, ↓cLe, ↓cGe, ↓cGtA, ↓cIs, ↓cIsNot, ↓D.isNon, ↓D.items, ↓rng, ↓okR, ↓lim, ↓eq0, ↓dMeth, ↓dGet1, ↓keyD, ↓sFrz, ↓sOwn, ↓sApp, ↓dDrw0, ↓dDrw1, ↓sInc, ↓dLenS, ↓dIxS, ↓dNeS, ↓dPow, ↓bInt, ↓eqT, F_then, S_then, check_turn_spec, hb, dot_spec (mulOk_of s'.a) (mulOk_of s'.b) (mulOk_of s'.c), dot_spec (mulOk_of s'.d) (mulOk_of s'.e) (mulOk_of s'.f), dot_spec (mulOk_of s'.g) (mulOk_of s'.h) (mulOk_of s'.i), mul_ok (mulOk_of hw), e, h2, TN, M9.mul]
end Sky

end
section
namespace Sky
open PySem PySem.Spec PyProof.Rows L2
theorem mulOk_of2 {i j : Int} (h : j.natAbs < 18446744073709551616) : mulOk i j = true := by
  unfold mulOk
  rw [Bool.or_eq_true_iff, Bool.or_eq_true_iff]
  exact .inr (.inl (Nat.ble_eq_true_of_le h))
theorem mul_sm {i j : Int} (h : i.natAbs < 18446744073709551616) : D.mul (.int i) (.int j) = some (.int (i * j)) := mul_ok (mulOk_of h)
theorem eq_turn {m n : M9} {w u : Int} : cEqP (.tup [.tup m.rows, .int w]) (.tup [.tup n.rows, .int u]) = some (decide (m = n ∧ w = u)) := by
  unfold cEqP
  simp [v3, D.py, D.pys, SeqAt.shaped, PyData.canLay0, PyData.canLayAll0, PyData.depth, PyData.depthAll, PyData.eqv, PyData.eqvAll]
  rw [Bool.eq_iff_iff]
  cases m; cases n
  simp
  intro _
  simp [and_assoc]
theorem turn_eq_spec {m n : M9} {w u : Int} {k : Nat} : F_Turn___eq__ [tnD m w, tnD n u] k = some (.bl (decide (m = n ∧ w = u)), k) := by
  have e := eq_turn (m := m) (n := n) (w := w) (u := u)
  simp only [M9.rows] at e
  simp [↓runB, ↓runI, ↓startE, ↓startI, ↓sSeq, ↓sRet, ↓sRetN, ↓sIf, ↓sAsg, ↓sDrop, ↓sFail, ↓sNext, ↓sPar2, ↓sPar3, ↓sFor, ↓forLoop, ↓sMe, ↓M.bind, ↓M.pure, ↓M.lift, ↓M.fail, ↓dBi, ↓dLc, ↓lcLoop, ↓dZip, ↓zipD, ↓pairD, ↓dEnumA, ↓enumD, ↓rangeD, ↓dRng, ↓dItems, ↓dCons, ↓dNil, ↓dBin, ↓dBinB, ↓dTup, ↓dLst, ↓dUn, ↓dIf, ↓dAndB, ↓dOrB, ↓dAndV, ↓dOrV, ↓dNotV, ↓D.tru, ↓dNotB, ↓dVal, ↓dIsi, ↓dIsiT, ↓dFld, ↓dCall, ↓dMake, ↓dEq, ↓dEqB, ↓dEqD, ↓dV, ↓dVR, ↓dC, ↓dTrue, ↓dTru, ↓tgTup, ↓tgsCons, ↓tgName, ↓tgsNil, ↓wipeE, ↓bSum, ↓bLen, ↓bAbs, ↓bTup, ↓bLst, ↓bAll, ↓bAny, ↓intsD, ↓boolsD, ↓D.add, ↓D.sub, ↓D.neg, ↓D.ix, ↓atI, ↓ixN, ↓D.mod, ↓D.kl, ↓Kl.sub, ↓Kl.subs, ↓Cn.fields, ↓cLt, ↓cLe, ↓cGe, ↓cGtA, ↓cIs, ↓cIsNot, ↓D.isNon, ↓D.items, ↓rng, ↓okR, ↓lim, ↓eq0, ↓dMeth, ↓dGet1, ↓keyD, ↓sFrz, ↓sOwn, ↓sApp, ↓dDrw0, ↓dDrw1, ↓sInc, ↓dLenS, ↓dIxS, ↓dNeS, ↓dPow, ↓bInt, ↓eqT, F_Turn___eq__, S_Turn___eq__, e]
def I9 : M9 := ⟨1, 0, 0, 0, 1, 0, 0, 0, 1⟩
def J9 : M9 := ⟨1, 0, 0, 0, 1, 0, 0, 0, -1⟩
theorem va_I9 : Va I9 1 := ⟨⟨rfl, rfl, rfl, rfl, rfl, rfl⟩, ⟨rfl, rfl, rfl, rfl, rfl, rfl⟩, by decide⟩
theorem va_J9 : Va J9 1 := ⟨⟨rfl, rfl, rfl, rfl, rfl, rfl⟩, ⟨rfl, rfl, rfl, rfl, rfl, rfl⟩, by decide⟩
theorem low_one {m : M9} : Low m 1 := by
  have := (dvd_gcN (m := m) (w := 1)).mp (Nat.dvd_refl _)
  exact Nat.dvd_one.mp this.1
theorem no_turn_spec {k : Nat} : F_no_turn [] k = some (tnD I9 1, k) := by
  have h := turn_mk (k := k) va_I9 (by decide)
  have e : TN I9 1 = tnD I9 1 := low_one.TN
  rw [← e]
  simp only [M9.rows, I9] at h
  simp [↓runB, ↓runI, ↓startE, ↓startI, ↓sSeq, ↓sRet, ↓sRetN, ↓sIf, ↓sAsg, ↓sDrop, ↓sFail, ↓sNext, ↓sPar2, ↓sPar3, ↓sFor, ↓forLoop, ↓sMe, ↓M.bind, ↓M.pure, ↓M.lift, ↓M.fail, ↓dBi, ↓dLc, ↓lcLoop, ↓dZip, ↓zipD, ↓pairD, ↓dEnumA, ↓enumD, ↓rangeD, ↓dRng, ↓dItems, ↓dCons, ↓dNil, ↓dBin, ↓dBinB, ↓dTup, ↓dLst, ↓dUn, ↓dIf, ↓dAndB, ↓dOrB, ↓dAndV, ↓dOrV, ↓dNotV, ↓D.tru, ↓dNotB, ↓dVal, ↓dIsi, ↓dIsiT, ↓dFld, ↓dCall, ↓dMake, ↓dEq, ↓dEqB, ↓dEqD, ↓dV, ↓dVR, ↓dC, ↓dTrue, ↓dTru, ↓tgTup, ↓tgsCons, ↓tgName, ↓tgsNil, ↓wipeE, ↓bSum, ↓bLen, ↓bAbs, ↓bTup, ↓bLst, ↓bAll, ↓bAny, ↓intsD, ↓boolsD, ↓D.add, ↓D.sub, ↓D.neg, ↓D.ix, ↓atI, ↓ixN, ↓D.mod, ↓D.kl, ↓Kl.sub, ↓Kl.subs, ↓Cn.fields, ↓cLt, ↓cLe, ↓cGe, ↓cGtA, ↓cIs, ↓cIsNot, ↓D.isNon, ↓D.items, ↓rng, ↓okR, ↓lim, ↓eq0, ↓dMeth, ↓dGet1, ↓keyD, ↓sFrz, ↓sOwn, ↓sApp, ↓dDrw0, ↓dDrw1, ↓sInc, ↓dLenS, ↓dIxS, ↓dNeS, ↓dPow, ↓bInt, ↓eqT, F_no_turn, S_no_turn, h, TN, I9]
theorem mirror_spec {k : Nat} : F_mirror [] k = some (tnD J9 1, k) := by
  have h := turn_mk (k := k) va_J9 (by decide)
  have e : TN J9 1 = tnD J9 1 := low_one.TN
  rw [← e]
  simp only [M9.rows, J9] at h
  simp [↓runB, ↓runI, ↓startE, ↓startI, ↓sSeq, ↓sRet, ↓sRetN, ↓sIf, ↓sAsg, ↓sDrop, ↓sFail, ↓sNext, ↓sPar2, ↓sPar3, ↓sFor, ↓forLoop, ↓sMe, ↓M.bind, ↓M.pure, ↓M.lift, ↓M.fail, ↓dBi, ↓dLc, ↓lcLoop, ↓dZip, ↓zipD, ↓pairD, ↓dEnumA, ↓enumD, ↓rangeD, ↓dRng, ↓dItems, ↓dCons, ↓dNil, ↓dBin, ↓dBinB, ↓dTup, ↓dLst, ↓dUn, ↓dIf, ↓dAndB, ↓dOrB, ↓dAndV, ↓dOrV, ↓dNotV, ↓D.tru, ↓dNotB, ↓dVal, ↓dIsi, ↓dIsiT, ↓dFld, ↓dCall, ↓dMake, ↓dEq, ↓dEqB, ↓dEqD, ↓dV, ↓dVR, ↓dC, ↓dTrue, ↓dTru, ↓tgTup, ↓tgsCons, ↓tgName, ↓tgsNil, ↓wipeE, ↓bSum, ↓bLen, ↓bAbs, ↓bTup, ↓bLst, ↓bAll, ↓bAny, ↓intsD, ↓boolsD, ↓D.add, ↓D.sub, ↓D.neg, ↓D.ix, ↓atI, ↓ixN, ↓D.mod, ↓D.kl, ↓Kl.sub, ↓Kl.subs, ↓Cn.fields, ↓cLt, ↓cLe, ↓cGe, ↓cGtA, ↓cIs, ↓cIsNot, ↓D.isNon, ↓D.items, ↓rng, ↓okR, ↓lim, ↓eq0, ↓dMeth, ↓dGet1, ↓keyD, ↓sFrz, ↓sOwn, ↓sApp, ↓dDrw0, ↓dDrw1, ↓sInc, ↓dLenS, ↓dIxS, ↓dNeS, ↓dPow, ↓bInt, ↓eqT, F_mirror, S_mirror, h, TN, J9]
def Rq (a b c d : Int) : M9 := ⟨a * a + b * b - c * c - d * d, 2 * (b * c - a * d), 2 * (b * d + a * c), 2 * (b * c + a * d), a * a - b * b + c * c - d * d, 2 * (c * d - a * b), 2 * (b * d - a * c), 2 * (c * d + a * b), a * a - b * b - c * c + d * d⟩
def Nq (a b c d : Int) : Int := a * a + b * b + c * c + d * d
theorem Nq_pos {a b c d : Int} (h : ¬ (a = 0 ∧ b = 0 ∧ c = 0 ∧ d = 0)) : 0 < Nq a b c d := by
  have h1 := sq_nn a; have h2 := sq_nn b; have h3 := sq_nn c; have h4 := sq_nn d
  have key : ∀ x : Int, x * x = 0 → x = 0 := fun x e => by rcases Int.mul_eq_zero.mp e with e | e <;> exact e
  unfold Nq
  rcases Int.lt_or_le 0 (a * a + b * b + c * c + d * d) with z | z
  · exact z
  · exact absurd ⟨key a (by omega), key b (by omega), key c (by omega), key d (by omega)⟩ h
theorem va_Rq {a b c d : Int} (h : ¬ (a = 0 ∧ b = 0 ∧ c = 0 ∧ d = 0)) : Va (Rq a b c d) (Nq a b c d) := by
  refine ⟨⟨?_, ?_, ?_, ?_, ?_, ?_⟩, ⟨?_, ?_, ?_, ?_, ?_, ?_⟩, Nq_pos h⟩ <;> simp only [Rq, Nq, M9.tr] <;> grind
theorem eq_four {a b c d x y z u : Int} : cEqP (.tup [.int a, .int b, .int c, .int d]) (.tup [.int x, .int y, .int z, .int u]) = some (decide (a = x ∧ b = y ∧ c = z ∧ d = u)) := by
  unfold cEqP
  simp [D.py, D.pys, SeqAt.shaped, PyData.canLay0, PyData.canLayAll0, PyData.depth, PyData.depthAll, PyData.eqv, PyData.eqvAll]
  rw [Bool.eq_iff_iff]; simp
theorem turn_by_spec {a b c d : Int} {k : Nat} (h : ¬ (a = 0 ∧ b = 0 ∧ c = 0 ∧ d = 0)) (ha : a.natAbs < 18446744073709551616) (hb : b.natAbs < 18446744073709551616) (hc : c.natAbs < 18446744073709551616) (hd : d.natAbs < 18446744073709551616) (hn : (Nq a b c d).natAbs < 18446744073709551616) :
    F_turn_by [.tup [.int a, .int b, .int c, .int d]] k = some (TN (Rq a b c d) (Nq a b c d), k) := by
  have e := turn_mk (k := k) (va_Rq h) hn
  simp only [M9.rows] at e
  unfold Rq Nq at e
  simp [↓runB, ↓runI, ↓startE, ↓startI, ↓sSeq, ↓sRet, ↓sRetN, ↓sIf, ↓sAsg, ↓sDrop, ↓sFail, ↓sNext, ↓sPar2, ↓sPar3, ↓sFor, ↓forLoop, ↓sMe, ↓M.bind, ↓M.pure, ↓M.lift, ↓M.fail, ↓dBi, ↓dLc, ↓lcLoop, ↓dZip, ↓zipD, ↓pairD, ↓dEnumA, ↓enumD, ↓rangeD, ↓dRng, ↓dItems, ↓dCons, ↓dNil, ↓dBin, ↓dBinB, ↓dTup, ↓dLst, ↓dUn, ↓dIf, ↓dAndB, ↓dOrB, ↓dAndV, ↓dOrV, ↓dNotV, ↓D.tru, ↓dNotB, ↓dVal, ↓dIsi, ↓dIsiT, ↓dFld, ↓dCall, ↓dMake, ↓dEq, ↓dEqB, ↓dEqD, ↓dV, ↓dVR, ↓dC, ↓dTrue, ↓dTru, ↓tgTup, ↓tgsCons, ↓tgName, ↓tgsNil, ↓wipeE, ↓bSum, ↓bLen, ↓bAbs, ↓bTup, ↓bLst, ↓bAll, ↓bAny, ↓intsD, ↓boolsD, ↓D.add, ↓D.sub, ↓D.neg, ↓D.ix, ↓atI, ↓ixN, ↓D.mod, ↓D.kl, ↓Kl.sub, ↓Kl.subs, ↓Cn.fields, ↓cLt, ↓cLe, ↓cGe, ↓cGtA, ↓cIs, ↓cIsNot, ↓D.isNon, ↓D.items, ↓rng, ↓okR, ↓lim, ↓eq0, ↓dMeth, ↓dGet1, ↓keyD, ↓sFrz, ↓sOwn, ↓sApp, ↓dDrw0, ↓dDrw1, ↓sInc, ↓dLenS, ↓dIxS, ↓dNeS, ↓dPow, ↓bInt, ↓eqT, F_turn_by, S_turn_by, eq_four, h, mul_sm, ha, hb, hc, hd, e, TN, Rq, Nq]
end Sky

end
section
namespace Sky
open PySem PySem.Spec PyProof.Rows L2
theorem fdiv_ok' {i j : Int} (h : divOk j = true) : D.fdiv (.int i) (.int j) = some (.int (i / j)) := if_pos h
theorem num_loop {k : Nat} {a b c t : D} : ∀ (ds : List D) (r : Int) (s : Slot), ∃ r' s', forLoop (tgName 5) (sSeq (sAsg (dBin D.fdiv (dV 4) (dC (.int 1009))) (tgName 4)) sNext) ds [.val a, .val b, .val c, .val t, .val (.int r), s, .no] k =
    some (.nx [.val a, .val b, .val c, .val t, .val (.int r'), s', .no], k) := by
  intro ds
  induction ds with
  | nil => intro r s; exact ⟨r, s, rfl⟩
  | cons d ds ih =>
    intro r s
    obtain ⟨r', s', e⟩ := ih (r / 1009) (.val d)
    refine ⟨r', s', ?_⟩
    have h : divOk 1009 = true := by decide
    unfold forLoop
    simp only [tgName, List.set]
    have step : (sSeq (sAsg (dBin D.fdiv (dV 4) (dC (.int 1009))) (tgName 4)) sNext) [.val a, .val b, .val c, .val t, .val (.int r), .val d, .no] k = some (.nx [.val a, .val b, .val c, .val t, .val (.int (r / 1009)), .val d, .no], k) := by
      simp [↓runB, ↓runI, ↓startE, ↓startI, ↓sSeq, ↓sRet, ↓sRetN, ↓sIf, ↓sAsg, ↓sDrop, ↓sFail, ↓sNext, ↓sPar2, ↓sPar3, ↓sFor, ↓forLoop, ↓sMe, ↓M.bind, ↓M.pure, ↓M.lift, ↓M.fail, ↓dBi, ↓dLc, ↓lcLoop, ↓dZip, ↓zipD, ↓pairD, ↓dEnumA, ↓enumD, ↓rangeD, ↓dRng, ↓dItems, ↓dCons, ↓dNil, ↓dBin, ↓dBinB, ↓dTup, ↓dLst, ↓dUn, ↓dIf, ↓dAndB, ↓dOrB, ↓dAndV, ↓dOrV, ↓dNotV, ↓D.tru, ↓dNotB, ↓dVal, ↓dIsi, ↓dIsiT, ↓dFld, ↓dCall, ↓dMake, ↓dEq, ↓dEqB, ↓dEqD, ↓dV, ↓dVR, ↓dC, ↓dTrue, ↓dTru, ↓tgTup, ↓tgsCons, ↓tgName, ↓tgsNil, ↓wipeE, ↓bSum, ↓bLen, ↓bAbs, ↓bTup, ↓bLst, ↓bAll, ↓bAny, ↓intsD, ↓boolsD, ↓D.add, ↓D.sub, ↓D.neg, ↓D.ix, ↓atI, ↓ixN, ↓D.mod, ↓D.kl, ↓Kl.sub, ↓Kl.subs, ↓Cn.fields, ↓cLt, ↓cLe, ↓cGe, ↓cGtA, ↓cIs, ↓cIsNot, ↓D.isNon, ↓D.items, ↓rng, ↓okR, ↓lim, ↓eq0, ↓dMeth, ↓dGet1, ↓keyD, ↓sFrz, ↓sOwn, ↓sApp, ↓dDrw0, ↓dDrw1, ↓sInc, ↓dLenS, ↓dIxS, ↓dNeS, ↓dPow, ↓bInt, ↓eqT, fdiv_ok' h]
    simp only [tgName] at step e
    simp only [M.bind, step, e]
theorem idx_ok {ns : List Int} {i : Int} (hn : ns ≠ []) (hi : 0 ≤ i) : ∃ j, atI ns (i % (ns.length : Int)) = some j := by
  have hl : 0 < ns.length := by cases ns <;> first | exact absurd rfl hn | exact Nat.succ_pos _
  have h1 := Int.emod_nonneg i (b := (ns.length : Int)) (by omega)
  have h2 := Int.emod_lt_of_pos i (b := (ns.length : Int)) (by omega)
  have h3 : (i % (ns.length : Int)).toNat < ns.length := by omega
  refine ⟨ns[(i % (ns.length : Int)).toNat], ?_⟩
  unfold atI ixN
  rw [if_pos h1, if_pos h2]
  simp [h3]
theorem num_rest {ns : List Int} (hn : ns.length ≤ 63) {cell turn i : Int} {k : Nat} (ht : 0 ≤ turn) : ∃ v, (match (sSeq (sAsg (dIf (dBinB cLt (dV 3) (dC (.int 60))) (dBin D.sub (dV 2) (dPow 10 18)) (dC (.int 0))) (tgName 4)) (sSeq (sFor (dRng (dCons (dBin D.mod (dBi bInt (dCons (dV 3) (dNil))) (dC (.int 60))) dNil)) (tgName 5) (sSeq (sAsg (dBin D.fdiv (dV 4) (dC (.int 1009))) (tgName 4)) (sNext))) (sSeq (sIf (dBinB cGtA (dV 4) (dC (.int 0))) (sSeq (sRet (dBin D.mod (dBi bInt (dCons (dV 4) (dNil))) (dC (.int 1009)))) (sNext)) (sNext)) (sSeq (sAsg (dBin D.mod (dBin D.add (dBin D.mul (dBi bInt (dCons (dBin D.add (dV 2) (dBin D.mul (dC (.int 977)) (dV 1))) (dNil))) (dC (.int 48271))) (dBin D.mul (dC (.int 31)) (dLenS ns (dV 0)))) (dC (.int 2147483647))) (tgName 6)) (sSeq (sAsg (dBin D.mod (dBin D.add (dBin D.mul (dV 6) (dV 6)) (dBin D.mul (dC (.int 40503)) (dV 1))) (dC (.int 2147483629))) (tgName 6)) (sSeq (sRet (dBi bInt (dCons (dBin D.mod (dBin D.add (dBin D.mul (dV 6) (dC (.int 69621))) (dBin D.fdiv (dV 6) (dC (.int 977)))) (dC (.int 2147483587))) (dNil)))) (sNext))))))) [.val .scr, .val (.int i), .val (.int cell), .val (.int turn), .no, .no, .no] k with
    | some (.nx _, k') => some (D.non, k')
    | some (.ret d, k') => some (d, k')
    | _ => none) = some (.int v, k) := by
  have h0 : ∃ r : Int, (sAsg (dIf (dBinB cLt (dV 3) (dC (.int 60))) (dBin D.sub (dV 2) (dPow 10 18)) (dC (.int 0))) (tgName 4)) [.val .scr, .val (.int i), .val (.int cell), .val (.int turn), .no, .no, .no] k = some (.nx [.val .scr, .val (.int i), .val (.int cell), .val (.int turn), .val (.int r), .no, .no], k) := by
    by_cases c : turn < 60
    · exact ⟨cell - 10 ^ 18, by simp [↓runB, ↓runI, ↓startE, ↓startI, ↓sSeq, ↓sRet, ↓sRetN, ↓sIf, ↓sAsg, ↓sDrop, ↓sFail, ↓sNext, ↓sPar2, ↓sPar3, ↓sFor, ↓forLoop, ↓sMe, ↓M.bind, ↓M.pure, ↓M.lift, ↓M.fail, ↓dBi, ↓dLc, ↓lcLoop, ↓dZip, ↓zipD, ↓pairD, ↓dEnumA, ↓enumD, ↓rangeD, ↓dRng, ↓dItems, ↓dCons, ↓dNil, ↓dBin, ↓dBinB, ↓dTup, ↓dLst, ↓dUn, ↓dIf, ↓dAndB, ↓dOrB, ↓dAndV, ↓dOrV, ↓dNotV, ↓D.tru, ↓dNotB, ↓dVal, ↓dIsi, ↓dIsiT, ↓dFld, ↓dCall, ↓dMake, ↓dEq, ↓dEqB, ↓dEqD, ↓dV, ↓dVR, ↓dC, ↓dTrue, ↓dTru, ↓tgTup, ↓tgsCons, ↓tgName, ↓tgsNil, ↓wipeE, ↓bSum, ↓bLen, ↓bAbs, ↓bTup, ↓bLst, ↓bAll, ↓bAny, ↓intsD, ↓boolsD, ↓D.add, ↓D.sub, ↓D.neg, ↓D.ix, ↓atI, ↓ixN, ↓D.mod, ↓D.kl, ↓Kl.sub, ↓Kl.subs, ↓Cn.fields, ↓cLt, ↓cLe, ↓cGe, ↓cGtA, ↓cIs, ↓cIsNot, ↓D.isNon, ↓D.items, ↓rng, ↓okR, ↓lim, ↓eq0, ↓dMeth, ↓dGet1, ↓keyD, ↓sFrz, ↓sOwn, ↓sApp, ↓dDrw0, ↓dDrw1, ↓sInc, ↓dLenS, ↓dIxS, ↓dNeS, ↓dPow, ↓bInt, ↓eqT, c]⟩
    · exact ⟨0, by simp [↓runB, ↓runI, ↓startE, ↓startI, ↓sSeq, ↓sRet, ↓sRetN, ↓sIf, ↓sAsg, ↓sDrop, ↓sFail, ↓sNext, ↓sPar2, ↓sPar3, ↓sFor, ↓forLoop, ↓sMe, ↓M.bind, ↓M.pure, ↓M.lift, ↓M.fail, ↓dBi, ↓dLc, ↓lcLoop, ↓dZip, ↓zipD, ↓pairD, ↓dEnumA, ↓enumD, ↓rangeD, ↓dRng, ↓dItems, ↓dCons, ↓dNil, ↓dBin, ↓dBinB, ↓dTup, ↓dLst, ↓dUn, ↓dIf, ↓dAndB, ↓dOrB, ↓dAndV, ↓dOrV, ↓dNotV, ↓D.tru, ↓dNotB, ↓dVal, ↓dIsi, ↓dIsiT, ↓dFld, ↓dCall, ↓dMake, ↓dEq, ↓dEqB, ↓dEqD, ↓dV, ↓dVR, ↓dC, ↓dTrue, ↓dTru, ↓tgTup, ↓tgsCons, ↓tgName, ↓tgsNil, ↓wipeE, ↓bSum, ↓bLen, ↓bAbs, ↓bTup, ↓bLst, ↓bAll, ↓bAny, ↓intsD, ↓boolsD, ↓D.add, ↓D.sub, ↓D.neg, ↓D.ix, ↓atI, ↓ixN, ↓D.mod, ↓D.kl, ↓Kl.sub, ↓Kl.subs, ↓Cn.fields, ↓cLt, ↓cLe, ↓cGe, ↓cGtA, ↓cIs, ↓cIsNot, ↓D.isNon, ↓D.items, ↓rng, ↓okR, ↓lim, ↓eq0, ↓dMeth, ↓dGet1, ↓keyD, ↓sFrz, ↓sOwn, ↓sApp, ↓dDrw0, ↓dDrw1, ↓sInc, ↓dLenS, ↓dIxS, ↓dNeS, ↓dPow, ↓bInt, ↓eqT, c]⟩
  obtain ⟨r, h0⟩ := h0
  have hm := Int.emod_nonneg turn (b := 60) (by omega)
  have hm2 := Int.emod_lt_of_pos turn (b := 60) (by omega)
  have ho : okR (turn % 60) = true := by
    unfold okR
    rw [Bool.and_eq_true_iff]
    exact ⟨decide_eq_true (by omega), decide_eq_true (by omega)⟩
  obtain ⟨r', s', h1⟩ := num_loop (k := k) (a := .scr) (b := .int i) (c := .int cell) (t := .int turn) (rangeD 0 (turn % 60).toNat) r .no
  have h2 : sFor (dRng (dCons (dBin D.mod (dBi bInt (dCons (dV 3) (dNil))) (dC (.int 60))) dNil)) (tgName 5) (sSeq (sAsg (dBin D.fdiv (dV 4) (dC (.int 1009))) (tgName 4)) (sNext)) [.val .scr, .val (.int i), .val (.int cell), .val (.int turn), .val (.int r), .no, .no] k = some (.nx [.val .scr, .val (.int i), .val (.int cell), .val (.int turn), .val (.int r'), s', .no], k) := by
    unfold sFor
    have e : dRng (dCons (dBin D.mod (dBi bInt (dCons (dV 3) (dNil))) (dC (.int 60))) dNil) [.val .scr, .val (.int i), .val (.int cell), .val (.int turn), .val (.int r), .no, .no] k = some (rangeD 0 (turn % 60).toNat, k) := by
      simp [↓dRng, ↓dCons, ↓dBin, ↓D.mod, ↓dBi, ↓bInt, ↓dV, ↓dC, ↓dNil, ↓M.bind, ↓M.pure, ↓M.lift, ↓rng, ho]
    simp only [M.bind, e, h1]
  have seq : ∀ {f g : SemS} {ρ ρ' : Env} {k k' : Nat}, f ρ k = some (.nx ρ', k') → sSeq f g ρ k = g ρ' k' := fun h => by simp only [sSeq, M.bind, h]
  rw [seq h0, seq h2]
  by_cases c : 0 < r'
  · exact ⟨r' % 1009, by simp [↓runB, ↓runI, ↓startE, ↓startI, ↓sSeq, ↓sRet, ↓sRetN, ↓sIf, ↓sAsg, ↓sDrop, ↓sFail, ↓sNext, ↓sPar2, ↓sPar3, ↓sFor, ↓forLoop, ↓sMe, ↓M.bind, ↓M.pure, ↓M.lift, ↓M.fail, ↓dBi, ↓dLc, ↓lcLoop, ↓dZip, ↓zipD, ↓pairD, ↓dEnumA, ↓enumD, ↓rangeD, ↓dRng, ↓dItems, ↓dCons, ↓dNil, ↓dBin, ↓dBinB, ↓dTup, ↓dLst, ↓dUn, ↓dIf, ↓dAndB, ↓dOrB, ↓dAndV, ↓dOrV, ↓dNotV, ↓D.tru, ↓dNotB, ↓dVal, ↓dIsi, ↓dIsiT, ↓dFld, ↓dCall, ↓dMake, ↓dEq, ↓dEqB, ↓dEqD, ↓dV, ↓dVR, ↓dC, ↓dTrue, ↓dTru, ↓tgTup, ↓tgsCons, ↓tgName, ↓tgsNil, ↓wipeE, ↓bSum, ↓bLen, ↓bAbs, ↓bTup, ↓bLst, ↓bAll, ↓bAny, ↓intsD, ↓boolsD, ↓D.add, ↓D.sub, ↓D.neg, ↓D.ix, ↓atI, ↓ixN, ↓D.mod, ↓D.kl, ↓Kl.sub, ↓Kl.subs, ↓Cn.fields, ↓cLt, ↓cLe, ↓cGe, ↓cGtA, ↓cIs, ↓cIsNot, ↓D.isNon, ↓D.items, ↓rng, ↓okR, ↓lim, ↓eq0, ↓dMeth, ↓dGet1, ↓keyD, ↓sFrz, ↓sOwn, ↓sApp, ↓dDrw0, ↓dDrw1, ↓sInc, ↓dLenS, ↓dIxS, ↓dNeS, ↓dPow, ↓bInt, ↓eqT, c]⟩
  · have d1 : divOk 977 = true := by decide
    have hb : ∀ x : Int, (x % 2147483629).natAbs < 18446744073709551616 := fun x => by
      have a1 := Int.emod_nonneg x (b := 2147483629) (by omega)
      have a2 := Int.emod_lt_of_pos x (b := 2147483629) (by omega)
      omega
    have hb2 : ∀ x : Int, (x % 2147483647).natAbs < 18446744073709551616 := fun x => by
      have a1 := Int.emod_nonneg x (b := 2147483647) (by omega)
      have a2 := Int.emod_lt_of_pos x (b := 2147483647) (by omega)
      omega
    have m1 : ∀ x, D.mul (.int x) (.int 48271) = some (.int (x * 48271)) := fun x => mul_ok (mulOk_of2 (by decide))
    have m2 : ∀ x, D.mul (.int 977) (.int x) = some (.int (977 * x)) := fun x => mul_sm (by decide)
    have m3 : ∀ x, D.mul (.int 31) (.int x) = some (.int (31 * x)) := fun x => mul_sm (by decide)
    have m4 : ∀ x, D.mul (.int 40503) (.int x) = some (.int (40503 * x)) := fun x => mul_sm (by decide)
    have m5 : ∀ x, D.mul (.int x) (.int 69621) = some (.int (x * 69621)) := fun x => mul_ok (mulOk_of2 (by decide))
    have m6 : ∀ x y, D.mul (.int (x % 2147483647)) (.int y) = some (.int (x % 2147483647 * y)) := fun x y => mul_sm (hb2 x)
    exact ⟨_, by simp [↓runB, ↓runI, ↓startE, ↓startI, ↓sSeq, ↓sRet, ↓sRetN, ↓sIf, ↓sAsg, ↓sDrop, ↓sFail, ↓sNext, ↓sPar2, ↓sPar3, ↓sFor, ↓forLoop, ↓sMe, ↓M.bind, ↓M.pure, ↓M.lift, ↓M.fail, ↓dBi, ↓dLc, ↓lcLoop, ↓dZip, ↓zipD, ↓pairD, ↓dEnumA, ↓enumD, ↓rangeD, ↓dRng, ↓dItems, ↓dCons, ↓dNil, ↓dBin, ↓dBinB, ↓dTup, ↓dLst, ↓dUn, ↓dIf, ↓dAndB, ↓dOrB, ↓dAndV, ↓dOrV, ↓dNotV, ↓D.tru, ↓dNotB, ↓dVal, ↓dIsi, ↓dIsiT, ↓dFld, ↓dCall, ↓dMake, ↓dEq, ↓dEqB, ↓dEqD, ↓dV, ↓dVR, ↓dC, ↓dTrue, ↓dTru, ↓tgTup, ↓tgsCons, ↓tgName, ↓tgsNil, ↓wipeE, ↓bSum, ↓bLen, ↓bAbs, ↓bTup, ↓bLst, ↓bAll, ↓bAny, ↓intsD, ↓boolsD, ↓D.add, ↓D.sub, ↓D.neg, ↓D.ix, ↓atI, ↓ixN, ↓D.mod, ↓D.kl, ↓Kl.sub, ↓Kl.subs, ↓Cn.fields, ↓cLt, ↓cLe, ↓cGe, ↓cGtA, ↓cIs, ↓cIsNot, ↓D.isNon, ↓D.items, ↓rng, ↓okR, ↓lim, ↓eq0, ↓dMeth, ↓dGet1, ↓keyD, ↓sFrz, ↓sOwn, ↓sApp, ↓dDrw0, ↓dDrw1, ↓sInc, ↓dLenS, ↓dIxS, ↓dNeS, ↓dPow, ↓bInt, ↓eqT, c, m1, m2, m3, m4, m5, m6, fdiv_ok' d1]; rfl⟩
theorem number_spec {ns : List Int} (hn : ns.length ≤ 63) {i : Int} {k : Nat} (hi : 0 ≤ i) : ∃ v, F__law_number ns [.scr, .int i] k = some (.int v, k) := by
  have seq : ∀ {f g : SemS} {ρ ρ' : Env} {k k' : Nat}, f ρ k = some (.nx ρ', k') → sSeq f g ρ k = g ρ' k' := fun h => by simp only [sSeq, M.bind, h]
  by_cases c : ns = []
  · subst c
    obtain ⟨v, h⟩ := num_rest (ns := []) (cell := 12345) (turn := 0) (i := i) (k := k) (by decide) (by decide)
    refine ⟨v, ?_⟩
    unfold F__law_number runB S__law_number
    rw [seq (ρ' := [.val .scr, .val (.int i), .val (.int 12345), .val (.int 0), .no, .no, .no]) (k' := k) (by simp [↓runB, ↓runI, ↓startE, ↓startI, ↓sSeq, ↓sRet, ↓sRetN, ↓sIf, ↓sAsg, ↓sDrop, ↓sFail, ↓sNext, ↓sPar2, ↓sPar3, ↓sFor, ↓forLoop, ↓sMe, ↓M.bind, ↓M.pure, ↓M.lift, ↓M.fail, ↓dBi, ↓dLc, ↓lcLoop, ↓dZip, ↓zipD, ↓pairD, ↓dEnumA, ↓enumD, ↓rangeD, ↓dRng, ↓dItems, ↓dCons, ↓dNil, ↓dBin, ↓dBinB, ↓dTup, ↓dLst, ↓dUn, ↓dIf, ↓dAndB, ↓dOrB, ↓dAndV, ↓dOrV, ↓dNotV, ↓D.tru, ↓dNotB, ↓dVal, ↓dIsi, ↓dIsiT, ↓dFld, ↓dCall, ↓dMake, ↓dEq, ↓dEqB, ↓dEqD, ↓dV, ↓dVR, ↓dC, ↓dTrue, ↓dTru, ↓tgTup, ↓tgsCons, ↓tgName, ↓tgsNil, ↓wipeE, ↓bSum, ↓bLen, ↓bAbs, ↓bTup, ↓bLst, ↓bAll, ↓bAny, ↓intsD, ↓boolsD, ↓D.add, ↓D.sub, ↓D.neg, ↓D.ix, ↓atI, ↓ixN, ↓D.mod, ↓D.kl, ↓Kl.sub, ↓Kl.subs, ↓Cn.fields, ↓cLt, ↓cLe, ↓cGe, ↓cGtA, ↓cIs, ↓cIsNot, ↓D.isNon, ↓D.items, ↓rng, ↓okR, ↓lim, ↓eq0, ↓dMeth, ↓dGet1, ↓keyD, ↓sFrz, ↓sOwn, ↓sApp, ↓dDrw0, ↓dDrw1, ↓sInc, ↓dLenS, ↓dIxS, ↓dNeS, ↓dPow, ↓bInt, ↓eqT])]
    exact h
  · obtain ⟨j, hj⟩ := idx_ok c hi
    have hl : 0 < ns.length := by cases ns <;> first | exact absurd rfl c | exact Nat.succ_pos _
    have hq : 0 ≤ i / (ns.length : Int) := Int.ediv_nonneg hi (by omega)
    obtain ⟨v, h⟩ := num_rest (ns := ns) hn (cell := j) (turn := i / (ns.length : Int)) (i := i) (k := k) hq
    refine ⟨v, ?_⟩
    unfold F__law_number runB S__law_number
    have hd : divOk (ns.length : Int) = true := divOk_of (by omega) (by omega)
    have he : ns.isEmpty = false := by cases ns <;> first | rfl | exact absurd rfl c
    rw [seq (ρ' := [.val .scr, .val (.int i), .val (.int j), .val (.int (i / (ns.length : Int))), .no, .no, .no]) (k' := k) (by simp [↓sAsg, ↓dIf, ↓dNeS, ↓dTup, ↓dCons, ↓dNil, ↓dIxS, ↓dBin, ↓D.mod, ↓dLenS, ↓dV, ↓M.bind, ↓M.pure, ↓M.lift, ↓startE, ↓tgTup, ↓tgsCons, ↓tgName, ↓tgsNil, ↓lim, he, hj, hl, fdiv_ok' hd])]
    exact h
theorem take_spec {ns : List Int} (hn : ns.length ≤ 63) {m : Int} {k : Nat} (hm : 0 < m) : ∃ v, 0 ≤ v ∧ v < m ∧ F__law_take ns [.drw, .int m] k = some (.int v, k + 1) := by
  obtain ⟨v, h⟩ := number_spec hn (i := ((k + 1 : Nat) : Int)) (k := k + 1) (by omega)
  refine ⟨v % m, Int.emod_nonneg _ (by omega), Int.emod_lt_of_pos _ hm, ?_⟩
  have h' : F__law_number ns [D.scr, D.int (↑k + 1)] (k + 1) = some (D.int v, k + 1) := by simpa using h
  simp [↓runB, ↓runI, ↓startE, ↓startI, ↓sSeq, ↓sRet, ↓sRetN, ↓sIf, ↓sAsg, ↓sDrop, ↓sFail, ↓sNext, ↓sPar2, ↓sPar3, ↓sFor, ↓forLoop, ↓sMe, ↓M.bind, ↓M.pure, ↓M.lift, ↓M.fail, ↓dBi, ↓dLc, ↓lcLoop, ↓dZip, ↓zipD, ↓pairD, ↓dEnumA, ↓enumD, ↓rangeD, ↓dRng, ↓dItems, ↓dCons, ↓dNil, ↓dBin, ↓dBinB, ↓dTup, ↓dLst, ↓dUn, ↓dIf, ↓dAndB, ↓dOrB, ↓dAndV, ↓dOrV, ↓dNotV, ↓D.tru, ↓dNotB, ↓dVal, ↓dIsi, ↓dIsiT, ↓dFld, ↓dCall, ↓dMake, ↓dEq, ↓dEqB, ↓dEqD, ↓dV, ↓dVR, ↓dC, ↓dTrue, ↓dTru, ↓tgTup, ↓tgsCons, ↓tgName, ↓tgsNil, ↓wipeE, ↓bSum, ↓bLen, ↓bAbs, ↓bTup, ↓bLst, ↓bAll, ↓bAny, ↓intsD, ↓boolsD, ↓D.add, ↓D.sub, ↓D.neg, ↓D.ix, ↓atI, ↓ixN, ↓D.mod, ↓D.kl, ↓Kl.sub, ↓Kl.subs, ↓Cn.fields, ↓cLt, ↓cLe, ↓cGe, ↓cGtA, ↓cIs, ↓cIsNot, ↓D.isNon, ↓D.items, ↓rng, ↓okR, ↓lim, ↓eq0, ↓dMeth, ↓dGet1, ↓keyD, ↓sFrz, ↓sOwn, ↓sApp, ↓dDrw0, ↓dDrw1, ↓sInc, ↓dLenS, ↓dIxS, ↓dNeS, ↓dPow, ↓bInt, ↓eqT, F__law_take, S__law_take, h', hm]
end Sky

end
section
namespace Sky
open PySem PySem.Spec PyProof.Rows L2
theorem seq_nx {f g : SemS} {ρ ρ' : Env} {k k' : Nat} (h : f ρ k = some (.nx ρ', k')) : sSeq f g ρ k = g ρ' k' := by simp only [sSeq, M.bind, h]
theorem by_spec {ns : List Int} (hn : ns.length ≤ 63) {k : Nat} : ∃ a b c d k', ¬ (a = 0 ∧ b = 0 ∧ c = 0 ∧ d = 0) ∧ a.natAbs ≤ 2 ∧ b.natAbs ≤ 2 ∧ c.natAbs ≤ 2 ∧ d.natAbs ≤ 2 ∧ F__law_by ns [.drw] k = some (.tup [.int a, .int b, .int c, .int d], k') := by
  obtain ⟨v0, a0, b0, h0⟩ := take_spec hn (m := 5) (k := k) (by decide)
  obtain ⟨v1, a1, b1, h1⟩ := take_spec hn (m := 5) (k := k + 1) (by decide)
  obtain ⟨v2, a2, b2, h2⟩ := take_spec hn (m := 5) (k := k + 1 + 1) (by decide)
  obtain ⟨v3, a3, b3, h3⟩ := take_spec hn (m := 5) (k := k + 1 + 1 + 1) (by decide)
  have hr : (List.range 4) = [0, 1, 2, 3] := rfl
  by_cases z : v0 - 2 = 0 ∧ v1 - 2 = 0 ∧ v2 - 2 = 0 ∧ v3 - 2 = 0
  · refine ⟨1, 0, 1, 0, k + 1 + 1 + 1 + 1, by decide, by decide, by decide, by decide, by decide, ?_⟩
    simp [↓runB, ↓runI, ↓startE, ↓startI, ↓sSeq, ↓sRet, ↓sRetN, ↓sIf, ↓sAsg, ↓sDrop, ↓sFail, ↓sNext, ↓sPar2, ↓sPar3, ↓sFor, ↓forLoop, ↓sMe, ↓M.bind, ↓M.pure, ↓M.lift, ↓M.fail, ↓dBi, ↓dLc, ↓lcLoop, ↓dZip, ↓zipD, ↓pairD, ↓dEnumA, ↓enumD, ↓rangeD, ↓dRng, ↓dItems, ↓dCons, ↓dNil, ↓dBin, ↓dBinB, ↓dTup, ↓dLst, ↓dUn, ↓dIf, ↓dAndB, ↓dOrB, ↓dAndV, ↓dOrV, ↓dNotV, ↓D.tru, ↓dNotB, ↓dVal, ↓dIsi, ↓dIsiT, ↓dFld, ↓dCall, ↓dMake, ↓dEq, ↓dEqB, ↓dEqD, ↓dV, ↓dVR, ↓dC, ↓dTrue, ↓dTru, ↓tgTup, ↓tgsCons, ↓tgName, ↓tgsNil, ↓wipeE, ↓bSum, ↓bLen, ↓bAbs, ↓bTup, ↓bLst, ↓bAll, ↓bAny, ↓intsD, ↓boolsD, ↓D.add, ↓D.sub, ↓D.neg, ↓D.ix, ↓atI, ↓ixN, ↓D.mod, ↓D.kl, ↓Kl.sub, ↓Kl.subs, ↓Cn.fields, ↓cLt, ↓cLe, ↓cGe, ↓cGtA, ↓cIs, ↓cIsNot, ↓D.isNon, ↓D.items, ↓rng, ↓okR, ↓lim, ↓eq0, ↓dMeth, ↓dGet1, ↓keyD, ↓sFrz, ↓sOwn, ↓sApp, ↓dDrw0, ↓dDrw1, ↓sInc, ↓dLenS, ↓dIxS, ↓dNeS, ↓dPow, ↓bInt, ↓eqT, F__law_by, S__law_by, hr, h0, h1, h2, h3, eq_four, z]
  · refine ⟨v0 - 2, v1 - 2, v2 - 2, v3 - 2, k + 1 + 1 + 1 + 1, z, by omega, by omega, by omega, by omega, ?_⟩
    simp [↓runB, ↓runI, ↓startE, ↓startI, ↓sSeq, ↓sRet, ↓sRetN, ↓sIf, ↓sAsg, ↓sDrop, ↓sFail, ↓sNext, ↓sPar2, ↓sPar3, ↓sFor, ↓forLoop, ↓sMe, ↓M.bind, ↓M.pure, ↓M.lift, ↓M.fail, ↓dBi, ↓dLc, ↓lcLoop, ↓dZip, ↓zipD, ↓pairD, ↓dEnumA, ↓enumD, ↓rangeD, ↓dRng, ↓dItems, ↓dCons, ↓dNil, ↓dBin, ↓dBinB, ↓dTup, ↓dLst, ↓dUn, ↓dIf, ↓dAndB, ↓dOrB, ↓dAndV, ↓dOrV, ↓dNotV, ↓D.tru, ↓dNotB, ↓dVal, ↓dIsi, ↓dIsiT, ↓dFld, ↓dCall, ↓dMake, ↓dEq, ↓dEqB, ↓dEqD, ↓dV, ↓dVR, ↓dC, ↓dTrue, ↓dTru, ↓tgTup, ↓tgsCons, ↓tgName, ↓tgsNil, ↓wipeE, ↓bSum, ↓bLen, ↓bAbs, ↓bTup, ↓bLst, ↓bAll, ↓bAny, ↓intsD, ↓boolsD, ↓D.add, ↓D.sub, ↓D.neg, ↓D.ix, ↓atI, ↓ixN, ↓D.mod, ↓D.kl, ↓Kl.sub, ↓Kl.subs, ↓Cn.fields, ↓cLt, ↓cLe, ↓cGe, ↓cGtA, ↓cIs, ↓cIsNot, ↓D.isNon, ↓D.items, ↓rng, ↓okR, ↓lim, ↓eq0, ↓dMeth, ↓dGet1, ↓keyD, ↓sFrz, ↓sOwn, ↓sApp, ↓dDrw0, ↓dDrw1, ↓sInc, ↓dLenS, ↓dIxS, ↓dNeS, ↓dPow, ↓bInt, ↓eqT, F__law_by, S__law_by, hr, h0, h1, h2, h3, eq_four, z]
theorem ix_lst {ds : List D} {v : Int} (h0 : 0 ≤ v) (h1 : v < ds.length) : ∃ d, d ∈ ds ∧ D.ix (.lst ds) (.int v) = some d := by
  have h2 : v.toNat < ds.length := by omega
  refine ⟨ds[v.toNat], List.getElem_mem h2, ?_⟩
  simp only [D.ix, atI, ixN]
  rw [if_pos h0, if_pos h1]
  simp [h2]
def skyL : List (Int × Int × Int) := [(1, 0, 0), (0, 1, 0), (0, 0, 1), (1, 2, 2), (2, 1, 2), (2, 2, 1), (3, 0, 4), (0, 3, 4), (4, 3, 0), (2, 3, 6), (6, 2, 3), (1, 4, 8), (1, 1, 0), (1, 1, 1)]
abbrev v3t (t : Int × Int × Int) : D := v3 t.1 t.2.1 t.2.2
theorem pick_spec {ns : List Int} (hn : ns.length ≤ 63) {ds : List D} {k : Nat} (h : 0 < ds.length) : ∃ d, d ∈ ds ∧ F__law_pick ns [.drw, .lst ds] k = some (d, k + 1) := by
  obtain ⟨v, h0, h1, e⟩ := take_spec hn (m := (ds.length : Int)) (k := k) (by omega)
  obtain ⟨d, hd, e2⟩ := ix_lst h0 h1
  refine ⟨d, hd, ?_⟩
  simp [↓F__law_pick, ↓S__law_pick, ↓runB, ↓startE, ↓sSeq, ↓sRet, ↓dBin, ↓dV, ↓dCall, ↓dCons, ↓dNil, ↓dBi, ↓bLen, ↓M.bind, ↓M.pure, ↓M.lift, e, e2]
theorem sky_row {ns : List Int} (hn : ns.length ≤ 63) {k : Nat} : ∃ t k', t ∈ skyL ∧ (dIf (dBinB cGtA (dCall 2 (F__law_take ns) (dCons (dV 0) (dCons (dC (.int 8)) (dNil)))) (dC (.int 0))) (dBin D.ix (dV 1) (dCall 2 (F__law_take ns) (dCons (dV 0) (dCons (dC (.int 12)) (dNil))))) (dCall 2 (F__law_pick ns) (dCons (dV 0) (dCons (dV 1) (dNil))))) [.val .drw, .val (.lst (skyL.map v3t)), .no, .no] k = some (v3t t, k') := by
  obtain ⟨v, h0, h1, e⟩ := take_spec hn (m := 8) (k := k) (by decide)
  by_cases c : 0 < v
  · obtain ⟨u, g0, g1, e2⟩ := take_spec hn (m := 12) (k := k + 1) (by decide)
    obtain ⟨d, hd, e3⟩ := ix_lst (ds := skyL.map v3t) g0 (by show u < 14; omega)
    obtain ⟨t, ht, rfl⟩ := List.mem_map.mp hd
    refine ⟨t, k + 1 + 1, ht, ?_⟩
    simp [↓dIf, ↓dBinB, ↓dCall, ↓dCons, ↓dNil, ↓dV, ↓dC, ↓dBin, ↓cGtA, ↓M.bind, ↓M.pure, ↓M.lift, e, e2, e3, c]
  · obtain ⟨d, hd, e3⟩ := pick_spec hn (ds := skyL.map v3t) (k := k + 1) (by decide)
    obtain ⟨t, ht, rfl⟩ := List.mem_map.mp hd
    refine ⟨t, k + 1 + 1, ht, ?_⟩
    simp [↓dIf, ↓dBinB, ↓dCall, ↓dCons, ↓dNil, ↓dV, ↓dC, ↓dBin, ↓cGtA, ↓M.bind, ↓M.pure, ↓M.lift, e, e3, c]
def Pm (x y : Int) : Prop := y = x ∨ y = 0 - x
/-- a drawn direction -/
def Sk (x y z : Int) : Prop := ∃ t, t ∈ skyL ∧ Pm t.1 x ∧ Pm t.2.1 y ∧ Pm t.2.2 z
theorem sky_spec {ns : List Int} (hn : ns.length ≤ 63) {k : Nat} : ∃ x y z k', Sk x y z ∧ F__law_sky ns [.drw] k = some (v3 x y z, k') := by
  obtain ⟨t, k1, ht, e⟩ := sky_row hn (k := k)
  obtain ⟨v0, a0, b0, h0⟩ := take_spec hn (m := 2) (k := k1) (by decide)
  obtain ⟨v1, a1, b1, h1⟩ := take_spec hn (m := 2) (k := k1 + 1) (by decide)
  obtain ⟨v2, a2, b2, h2⟩ := take_spec hn (m := 2) (k := k1 + 1 + 1) (by decide)
  have e0 : (sAsg (dLst (dCons (dTup (dCons (dC (.int 1)) (dCons (dC (.int 0)) (dCons (dC (.int 0)) (dNil))))) (dCons (dTup (dCons (dC (.int 0)) (dCons (dC (.int 1)) (dCons (dC (.int 0)) (dNil))))) (dCons (dTup (dCons (dC (.int 0)) (dCons (dC (.int 0)) (dCons (dC (.int 1)) (dNil))))) (dCons (dTup (dCons (dC (.int 1)) (dCons (dC (.int 2)) (dCons (dC (.int 2)) (dNil))))) (dCons (dTup (dCons (dC (.int 2)) (dCons (dC (.int 1)) (dCons (dC (.int 2)) (dNil))))) (dCons (dTup (dCons (dC (.int 2)) (dCons (dC (.int 2)) (dCons (dC (.int 1)) (dNil))))) (dCons (dTup (dCons (dC (.int 3)) (dCons (dC (.int 0)) (dCons (dC (.int 4)) (dNil))))) (dCons (dTup (dCons (dC (.int 0)) (dCons (dC (.int 3)) (dCons (dC (.int 4)) (dNil))))) (dCons (dTup (dCons (dC (.int 4)) (dCons (dC (.int 3)) (dCons (dC (.int 0)) (dNil))))) (dCons (dTup (dCons (dC (.int 2)) (dCons (dC (.int 3)) (dCons (dC (.int 6)) (dNil))))) (dCons (dTup (dCons (dC (.int 6)) (dCons (dC (.int 2)) (dCons (dC (.int 3)) (dNil))))) (dCons (dTup (dCons (dC (.int 1)) (dCons (dC (.int 4)) (dCons (dC (.int 8)) (dNil))))) (dCons (dTup (dCons (dC (.int 1)) (dCons (dC (.int 1)) (dCons (dC (.int 0)) (dNil))))) (dCons (dTup (dCons (dC (.int 1)) (dCons (dC (.int 1)) (dCons (dC (.int 1)) (dNil))))) (dNil)))))))))))))))) (tgName 1)) [.val .drw, .no, .no, .no] k = some (.nx [.val .drw, .val (.lst (skyL.map v3t)), .no, .no], k) := rfl
  have pm : ∀ (v x : Int), ∃ y, Pm x y ∧ (if v = 0 then D.int x else D.int (0 - x)) = .int y := fun v x => by
    by_cases c : v = 0
    · exact ⟨x, .inl rfl, if_pos c⟩
    · exact ⟨0 - x, .inr rfl, if_neg c⟩
  obtain ⟨x, px, ex⟩ := pm v0 t.1
  obtain ⟨y, py, ey⟩ := pm v1 t.2.1
  obtain ⟨z, pz, ez⟩ := pm v2 t.2.2
  refine ⟨x, y, z, k1 + 1 + 1 + 1, ⟨t, ht, px, py, pz⟩, ?_⟩
  have one : ∀ (v x y : Int) (k : Nat) (s : Slot), F__law_take ns [.drw, .int 2] k = some (.int v, k + 1) → (if v = 0 then D.int x else D.int (0 - x)) = .int y →
      (dIf (dEqB eqT false (dCall 2 (F__law_take ns) (dCons (dV 0) (dCons (dC (.int 2)) (dNil)))) (dC (.int 0))) (dV 3) (dBin D.sub (dC (.int 0)) (dV 3))) [.val .drw, .val (.lst (skyL.map v3t)), .val (v3t t), .val (.int x)] k = some (.int y, k + 1) := fun v x y k s h e => by
    by_cases c : v = 0
    · rw [if_pos c] at e; cases e
      simp [↓runB, ↓runI, ↓startE, ↓startI, ↓sSeq, ↓sRet, ↓sRetN, ↓sIf, ↓sAsg, ↓sDrop, ↓sFail, ↓sNext, ↓sPar2, ↓sPar3, ↓sFor, ↓forLoop, ↓sMe, ↓M.bind, ↓M.pure, ↓M.lift, ↓M.fail, ↓dBi, ↓dLc, ↓lcLoop, ↓dZip, ↓zipD, ↓pairD, ↓dEnumA, ↓enumD, ↓rangeD, ↓dRng, ↓dItems, ↓dCons, ↓dNil, ↓dBin, ↓dBinB, ↓dTup, ↓dLst, ↓dUn, ↓dIf, ↓dAndB, ↓dOrB, ↓dAndV, ↓dOrV, ↓dNotV, ↓D.tru, ↓dNotB, ↓dVal, ↓dIsi, ↓dIsiT, ↓dFld, ↓dCall, ↓dMake, ↓dEq, ↓dEqB, ↓dEqD, ↓dV, ↓dVR, ↓dC, ↓dTrue, ↓dTru, ↓tgTup, ↓tgsCons, ↓tgName, ↓tgsNil, ↓wipeE, ↓bSum, ↓bLen, ↓bAbs, ↓bTup, ↓bLst, ↓bAll, ↓bAny, ↓intsD, ↓boolsD, ↓D.add, ↓D.sub, ↓D.neg, ↓D.ix, ↓atI, ↓ixN, ↓D.mod, ↓D.kl, ↓Kl.sub, ↓Kl.subs, ↓Cn.fields, ↓cLt, ↓cLe, ↓cGe, ↓cGtA, ↓cIs, ↓cIsNot, ↓D.isNon, ↓D.items, ↓rng, ↓okR, ↓lim, ↓eq0, ↓dMeth, ↓dGet1, ↓keyD, ↓sFrz, ↓sOwn, ↓sApp, ↓dDrw0, ↓dDrw1, ↓sInc, ↓dLenS, ↓dIxS, ↓dNeS, ↓dPow, ↓bInt, ↓eqT, h, c]
    · rw [if_neg c] at e; cases e
      simp [↓runB, ↓runI, ↓startE, ↓startI, ↓sSeq, ↓sRet, ↓sRetN, ↓sIf, ↓sAsg, ↓sDrop, ↓sFail, ↓sNext, ↓sPar2, ↓sPar3, ↓sFor, ↓forLoop, ↓sMe, ↓M.bind, ↓M.pure, ↓M.lift, ↓M.fail, ↓dBi, ↓dLc, ↓lcLoop, ↓dZip, ↓zipD, ↓pairD, ↓dEnumA, ↓enumD, ↓rangeD, ↓dRng, ↓dItems, ↓dCons, ↓dNil, ↓dBin, ↓dBinB, ↓dTup, ↓dLst, ↓dUn, ↓dIf, ↓dAndB, ↓dOrB, ↓dAndV, ↓dOrV, ↓dNotV, ↓D.tru, ↓dNotB, ↓dVal, ↓dIsi, ↓dIsiT, ↓dFld, ↓dCall, ↓dMake, ↓dEq, ↓dEqB, ↓dEqD, ↓dV, ↓dVR, ↓dC, ↓dTrue, ↓dTru, ↓tgTup, ↓tgsCons, ↓tgName, ↓tgsNil, ↓wipeE, ↓bSum, ↓bLen, ↓bAbs, ↓bTup, ↓bLst, ↓bAll, ↓bAny, ↓intsD, ↓boolsD, ↓D.add, ↓D.sub, ↓D.neg, ↓D.ix, ↓atI, ↓ixN, ↓D.mod, ↓D.kl, ↓Kl.sub, ↓Kl.subs, ↓Cn.fields, ↓cLt, ↓cLe, ↓cGe, ↓cGtA, ↓cIs, ↓cIsNot, ↓D.isNon, ↓D.items, ↓rng, ↓okR, ↓lim, ↓eq0, ↓dMeth, ↓dGet1, ↓keyD, ↓sFrz, ↓sOwn, ↓sApp, ↓dDrw0, ↓dDrw1, ↓sInc, ↓dLenS, ↓dIxS, ↓dNeS, ↓dPow, ↓bInt, ↓eqT, h, c]
  have i0 := one v0 _ _ _ .no h0 ex
  have i1 := one v1 _ _ _ .no h1 ey
  have i2 := one v2 _ _ _ .no h2 ez
  unfold F__law_sky runB S__law_sky
  have st : startE 4 [.drw] = [.val .drw, .no, .no, .no] := rfl
  rw [st, seq_nx e0, seq_nx (ρ' := [.val .drw, .val (.lst (skyL.map v3t)), .val (v3t t), .no]) (k' := k1) (by simp only [sAsg, M.bind, e]; rfl)]
  simp [↓sSeq, ↓sRet, ↓dBi, ↓dCons, ↓dNil, ↓dLc, ↓dItems, ↓D.items, ↓lcLoop, ↓tgName, ↓dTrue, ↓wipeE, ↓M.bind, ↓M.pure, ↓M.lift, ↓bTup, ↓lim, i0, i1, i2, dV]
end Sky

end
section
namespace Sky
open PySem PySem.Spec PyProof.Rows L2
theorem TN_get {m : M9} {w : Int} (v : Va m w) : ∃ n u g, TN m w = tnD n u ∧ 0 < g ∧ n.sc g = m ∧ g * u = w ∧ Va n u ∧ Low n u := by
  obtain ⟨e1, e2, e3, e4⟩ := dv_of (m := m) v.p
  exact ⟨_, _, _, TN_def, e3, e1, e2, v.dv, e4⟩
def dt (m : M9) : Int := (m.b * m.f - m.c * m.e) * m.g + (m.c * m.d - m.a * m.f) * m.h + (m.a * m.e - m.b * m.d) * m.i
theorem dt_mul (n m : M9) : dt (n.mul m) = dt n * dt m := by simp only [dt, M9.mul]; grind
theorem dt_sc (m : M9) (c : Int) : dt (m.sc c) = c * c * c * dt m := by simp only [dt, M9.sc]; grind
theorem dt_tr (m : M9) : dt m.tr = dt m := by simp only [dt, M9.tr]; grind
theorem dt_Rq (a b c d : Int) : dt (Rq a b c d) = Nq a b c d * Nq a b c d * Nq a b c d := by simp only [dt, Rq, Nq]; grind
theorem dt_sc_pos {m : M9} {c : Int} (hc : 0 < c) : (0 < dt (m.sc c) ↔ 0 < dt m) ∧ (dt (m.sc c) < 0 ↔ dt m < 0) := by
  have h3 : 0 < c * c * c := Int.mul_pos (Int.mul_pos hc hc) hc
  rw [dt_sc]
  refine ⟨⟨fun h => Int.pos_of_mul_pos_right h (by omega), fun h => Int.mul_pos h3 h⟩, ⟨fun h => ?_, fun h => Int.mul_neg_of_pos_of_neg h3 h⟩⟩
  rcases Int.lt_or_le (dt m) 0 with z | z
  · exact z
  · have := Int.mul_nonneg (Int.le_of_lt h3) z; omega
theorem mirrored_spec {m : M9} {w : Int} {k : Nat} (v : Va m w) (h : w.natAbs < 18446744073709551616) : F_Turn_is_mirrored [tnD m w] k = some (.bl (decide (dt m < 0)), k) := by
  have s := v.sm9 h
  have c := cross_spec (a := m.a) (b := m.b) (c := m.c) (x := m.d) (y := m.e) (z := m.f) (k := k) (mulOk_of s.b) (mulOk_of s.c) (mulOk_of s.c) (mulOk_of s.a) (mulOk_of s.a) (mulOk_of s.b)
  have d := dot_spec (a := m.b * m.f - m.c * m.e) (b := m.c * m.d - m.a * m.f) (c := m.a * m.e - m.b * m.d) (x := m.g) (y := m.h) (z := m.i) (k := k) (mulOk_of2 s.g) (mulOk_of2 s.h) (mulOk_of2 s.i)
  have e : F_det [v3 m.a m.b m.c, v3 m.d m.e m.f, v3 m.g m.h m.i] k = some (.int (dt m), k) := by
    simp [↓runB, ↓runI, ↓startE, ↓startI, ↓sSeq, ↓sRet, ↓sRetN, ↓sIf, ↓sAsg, ↓sDrop, ↓sFail, ↓sNext, ↓sPar2, ↓sPar3, ↓sFor, ↓forLoop, ↓sMe, ↓M.bind, ↓M.pure, ↓M.lift, ↓M.fail, ↓dBi, ↓dLc, ↓lcLoop, ↓dZip, ↓zipD, ↓pairD, ↓dEnumA, ↓enumD, ↓rangeD, ↓dRng, ↓dItems, ↓dCons, ↓dNil, ↓dBin, ↓dBinB, ↓dTup, ↓dLst, ↓dUn, ↓dIf, ↓dAndB, ↓dOrB, ↓dAndV, ↓dOrV, ↓dNotV, ↓D.tru, ↓dNotB, ↓dVal, ↓dIsi, ↓dIsiT, ↓dFld, ↓dCall, ↓dMake, ↓dEq, ↓dEqB, ↓dEqD, ↓dV, ↓dVR, ↓dC, ↓dTrue, ↓dTru, ↓tgTup, ↓tgsCons, ↓tgName, ↓tgsNil, ↓wipeE, ↓bSum, ↓bLen, ↓bAbs, ↓bTup, ↓bLst, ↓bAll, ↓bAny, ↓intsD, ↓boolsD, ↓D.add, ↓D.sub, ↓D.neg, ↓D.ix, ↓atI, ↓ixN, ↓D.mod, ↓D.kl, ↓Kl.sub, ↓Kl.subs, ↓Cn.fields, ↓cLt, ↓cLe, ↓cGe, ↓cGtA, ↓cIs, ↓cIsNot, ↓D.isNon, ↓D.items, ↓rng, ↓okR, ↓lim, ↓eq0, ↓dMeth, ↓dGet1, ↓keyD, ↓sFrz, ↓sOwn, ↓sApp, ↓dDrw0, ↓dDrw1, ↓sInc, ↓dLenS, ↓dIxS, ↓dNeS, ↓dPow, ↓bInt, ↓eqT, F_det, S_det, c, d, dt]
  simp [↓runB, ↓runI, ↓startE, ↓startI, ↓sSeq, ↓sRet, ↓sRetN, ↓sIf, ↓sAsg, ↓sDrop, ↓sFail, ↓sNext, ↓sPar2, ↓sPar3, ↓sFor, ↓forLoop, ↓sMe, ↓M.bind, ↓M.pure, ↓M.lift, ↓M.fail, ↓dBi, ↓dLc, ↓lcLoop, ↓dZip, ↓zipD, ↓pairD, ↓dEnumA, ↓enumD, ↓rangeD, ↓dRng, ↓dItems, ↓dCons, ↓dNil, ↓dBin, ↓dBinB, ↓dTup, ↓dLst, ↓dUn, ↓dIf, ↓dAndB, ↓dOrB, ↓dAndV, ↓dOrV, ↓dNotV, ↓D.tru, ↓dNotB, ↓dVal, ↓dIsi, ↓dIsiT, ↓dFld, ↓dCall, ↓dMake, ↓dEq, ↓dEqB, ↓dEqD, ↓dV, ↓dVR, ↓dC, ↓dTrue, ↓dTru, ↓tgTup, ↓tgsCons, ↓tgName, ↓tgsNil, ↓wipeE, ↓bSum, ↓bLen, ↓bAbs, ↓bTup, ↓bLst, ↓bAll, ↓bAny, ↓intsD, ↓boolsD, ↓D.add, ↓D.sub, ↓D.neg, ↓D.ix, ↓atI, ↓ixN, ↓D.mod, ↓D.kl, ↓Kl.sub, ↓Kl.subs, ↓Cn.fields, ↓cLt, ↓cLe, ↓cGe, ↓cGtA, ↓cIs, ↓cIsNot, ↓D.isNon, ↓D.items, ↓rng, ↓okR, ↓lim, ↓eq0, ↓dMeth, ↓dGet1, ↓keyD, ↓sFrz, ↓sOwn, ↓sApp, ↓dDrw0, ↓dDrw1, ↓sInc, ↓dLenS, ↓dIxS, ↓dNeS, ↓dPow, ↓bInt, ↓eqT, F_Turn_is_mirrored, S_Turn_is_mirrored, e]
theorem meth_mirrored {m : M9} {w : Int} {k : Nat} {f : Sem} {ρ : Env} {k0 : Nat} (hf : f ρ k0 = some (tnD m w, k)) (v : Va m w) (h : w.natAbs < 18446744073709551616) : dMeth mt_is_mirrored "is_mirrored" f dNil ρ k0 = some (.bl (decide (dt m < 0)), k) := by
  simp only [dMeth, M.bind, hf, mt_is_mirrored, dNil]
  exact mirrored_spec v h
def M9.ap (m : M9) (x y z : Int) : D := v3 (m.a * x + m.b * y + m.c * z) (m.d * x + m.e * y + m.f * z) (m.g * x + m.h * y + m.i * z)
theorem apply_spec {m : M9} {w x y z p q r : Int} {k : Nat} (v : Va m w) (h : w.natAbs < 18446744073709551616) (hx : ¬ (x = 0 ∧ y = 0 ∧ z = 0)) (hp : m.ap x y z = v3 p q r) (hz : ¬ (p = 0 ∧ q = 0 ∧ r = 0)) (hd : divOk (g3 p q r) = true) :
    F_apply [tnD m w, v3 x y z] k = some (v3 (p / g3 p q r) (q / g3 p q r) (r / g3 p q r), k) := by
  have s := v.sm9 h
  have l := least_spec (k := k) hz hd
  simp only [M9.ap, D.tup.injEq, List.cons.injEq, D.int.injEq, and_true] at hp
  obtain ⟨h1, h2, h3⟩ := hp
  subst h1 h2 h3
  simp [↓runB, ↓runI, ↓startE, ↓startI, ↓sSeq, ↓sRet, ↓sRetN, ↓sIf, ↓sAsg, ↓sDrop, ↓sFail, ↓sNext, ↓sPar2, ↓sPar3, ↓sFor, ↓forLoop, ↓sMe, ↓M.bind, ↓M.pure, ↓M.lift, ↓M.fail, ↓dBi, ↓dLc, ↓lcLoop, ↓dZip, ↓zipD, ↓pairD, ↓dEnumA, ↓enumD, ↓rangeD, ↓dRng, ↓dItems, ↓dCons, ↓dNil, ↓dBin, ↓dBinB, ↓dTup, ↓dLst, ↓dUn, ↓dIf, ↓dAndB, ↓dOrB, ↓dAndV, ↓dOrV, ↓dNotV, ↓D.tru, ↓dNotB, ↓dVal, ↓dIsi, ↓dIsiT, ↓dFld, ↓dCall, ↓dMake, ↓dEq, ↓dEqB, ↓dEqD, ↓dV, ↓dVR, ↓dC, ↓dTrue, ↓dTru, ↓tgTup, ↓tgsCons, ↓tgName, ↓tgsNil, ↓wipeE, ↓bSum, ↓bLen, ↓bAbs, ↓bTup, ↓bLst, ↓bAll, ↓bAny, ↓intsD, ↓boolsD, ↓D.add, ↓D.sub, ↓D.neg, ↓D.ix, ↓atI, ↓ixN, ↓D.mod, ↓D.kl, ↓Kl.sub, ↓Kl.subs, ↓Cn.fields, ↓cLt, ↓cLe, ↓cGe, ↓cGtA, ↓cIs, ↓cIsNot, ↓D.isNon, ↓D.items, ↓rng, ↓okR, ↓lim, ↓eq0, ↓dMeth, ↓dGet1, ↓keyD, ↓sFrz, ↓sOwn, ↓sApp, ↓dDrw0, ↓dDrw1, ↓sInc, ↓dLenS, ↓dIxS, ↓dNeS, ↓dPow, ↓bInt, ↓eqT, F_apply, S_apply, check_turn_spec, check_triple_spec hx, dot_spec (mulOk_of s.a) (mulOk_of s.b) (mulOk_of s.c), dot_spec (mulOk_of s.d) (mulOk_of s.e) (mulOk_of s.f), dot_spec (mulOk_of s.g) (mulOk_of s.h) (mulOk_of s.i), l]
/-- a turn takes nothing but zero to zero -/
theorem ap_ne {m : M9} {w x y z : Int} (v : Va m w) (hx : ¬ (x = 0 ∧ y = 0 ∧ z = 0)) : ¬ (m.a * x + m.b * y + m.c * z = 0 ∧ m.d * x + m.e * y + m.f * z = 0 ∧ m.g * x + m.h * y + m.i * z = 0) := by
  rintro ⟨h1, h2, h3⟩
  obtain ⟨_, ⟨t1, t2, t3, t4, t5, t6⟩, p⟩ := v
  simp only [M9.tr] at t1 t2 t3 t4 t5 t6
  have ww : 0 < w * w := Int.mul_pos p p
  have can : ∀ u : Int, w * w * u = 0 → u = 0 := fun u e => by rcases Int.mul_eq_zero.mp e with e | e <;> omega
  exact hx ⟨can x (by grind), can y (by grind), can z (by grind)⟩
theorem opposite_spec {a b c : Int} {k : Nat} (h : ¬ (a = 0 ∧ b = 0 ∧ c = 0)) (hd : divOk (g3 a b c) = true) : F_opposite [v3 a b c] k = some (v3 (-(a / g3 a b c)) (-(b / g3 a b c)) (-(c / g3 a b c)), k) := by
  have l := least_spec (k := k) h hd
  simp [↓runB, ↓runI, ↓startE, ↓startI, ↓sSeq, ↓sRet, ↓sRetN, ↓sIf, ↓sAsg, ↓sDrop, ↓sFail, ↓sNext, ↓sPar2, ↓sPar3, ↓sFor, ↓forLoop, ↓sMe, ↓M.bind, ↓M.pure, ↓M.lift, ↓M.fail, ↓dBi, ↓dLc, ↓lcLoop, ↓dZip, ↓zipD, ↓pairD, ↓dEnumA, ↓enumD, ↓rangeD, ↓dRng, ↓dItems, ↓dCons, ↓dNil, ↓dBin, ↓dBinB, ↓dTup, ↓dLst, ↓dUn, ↓dIf, ↓dAndB, ↓dOrB, ↓dAndV, ↓dOrV, ↓dNotV, ↓D.tru, ↓dNotB, ↓dVal, ↓dIsi, ↓dIsiT, ↓dFld, ↓dCall, ↓dMake, ↓dEq, ↓dEqB, ↓dEqD, ↓dV, ↓dVR, ↓dC, ↓dTrue, ↓dTru, ↓tgTup, ↓tgsCons, ↓tgName, ↓tgsNil, ↓wipeE, ↓bSum, ↓bLen, ↓bAbs, ↓bTup, ↓bLst, ↓bAll, ↓bAny, ↓intsD, ↓boolsD, ↓D.add, ↓D.sub, ↓D.neg, ↓D.ix, ↓atI, ↓ixN, ↓D.mod, ↓D.kl, ↓Kl.sub, ↓Kl.subs, ↓Cn.fields, ↓cLt, ↓cLe, ↓cGe, ↓cGtA, ↓cIs, ↓cIsNot, ↓D.isNon, ↓D.items, ↓rng, ↓okR, ↓lim, ↓eq0, ↓dMeth, ↓dGet1, ↓keyD, ↓sFrz, ↓sOwn, ↓sApp, ↓dDrw0, ↓dDrw1, ↓sInc, ↓dLenS, ↓dIxS, ↓dNeS, ↓dPow, ↓bInt, ↓eqT, F_opposite, S_opposite, l]
theorem on_line_spec {a b c x y z : Int} {k : Nat} (h1 : mulOk b z = true) (h2 : mulOk c y = true) (h3 : mulOk c x = true) (h4 : mulOk a z = true) (h5 : mulOk a y = true) (h6 : mulOk b x = true) :
    F_is_on_line [v3 a b c, v3 x y z] k = some (.bl (decide (b * z - c * y = 0 ∧ c * x - a * z = 0 ∧ a * y - b * x = 0)), k) := by
  have c := cross_spec (k := k) h1 h2 h3 h4 h5 h6
  simp [↓runB, ↓runI, ↓startE, ↓startI, ↓sSeq, ↓sRet, ↓sRetN, ↓sIf, ↓sAsg, ↓sDrop, ↓sFail, ↓sNext, ↓sPar2, ↓sPar3, ↓sFor, ↓forLoop, ↓sMe, ↓M.bind, ↓M.pure, ↓M.lift, ↓M.fail, ↓dBi, ↓dLc, ↓lcLoop, ↓dZip, ↓zipD, ↓pairD, ↓dEnumA, ↓enumD, ↓rangeD, ↓dRng, ↓dItems, ↓dCons, ↓dNil, ↓dBin, ↓dBinB, ↓dTup, ↓dLst, ↓dUn, ↓dIf, ↓dAndB, ↓dOrB, ↓dAndV, ↓dOrV, ↓dNotV, ↓D.tru, ↓dNotB, ↓dVal, ↓dIsi, ↓dIsiT, ↓dFld, ↓dCall, ↓dMake, ↓dEq, ↓dEqB, ↓dEqD, ↓dV, ↓dVR, ↓dC, ↓dTrue, ↓dTru, ↓tgTup, ↓tgsCons, ↓tgName, ↓tgsNil, ↓wipeE, ↓bSum, ↓bLen, ↓bAbs, ↓bTup, ↓bLst, ↓bAll, ↓bAny, ↓intsD, ↓boolsD, ↓D.add, ↓D.sub, ↓D.neg, ↓D.ix, ↓atI, ↓ixN, ↓D.mod, ↓D.kl, ↓Kl.sub, ↓Kl.subs, ↓Cn.fields, ↓cLt, ↓cLe, ↓cGe, ↓cGtA, ↓cIs, ↓cIsNot, ↓D.isNon, ↓D.items, ↓rng, ↓okR, ↓lim, ↓eq0, ↓dMeth, ↓dGet1, ↓keyD, ↓sFrz, ↓sOwn, ↓sApp, ↓dDrw0, ↓dDrw1, ↓sInc, ↓dLenS, ↓dIxS, ↓dNeS, ↓dPow, ↓bInt, ↓eqT, F_is_on_line, S_is_on_line, c]
theorem times_spec {a x y z : Int} {k : Nat} (ha : a.natAbs < 18446744073709551616) : F_times [.int a, v3 x y z] k = some (v3 (a * x) (a * y) (a * z), k) := by
  simp [↓runB, ↓runI, ↓startE, ↓startI, ↓sSeq, ↓sRet, ↓sRetN, ↓sIf, ↓sAsg, ↓sDrop, ↓sFail, ↓sNext, ↓sPar2, ↓sPar3, ↓sFor, ↓forLoop, ↓sMe, ↓M.bind, ↓M.pure, ↓M.lift, ↓M.fail, ↓dBi, ↓dLc, ↓lcLoop, ↓dZip, ↓zipD, ↓pairD, ↓dEnumA, ↓enumD, ↓rangeD, ↓dRng, ↓dItems, ↓dCons, ↓dNil, ↓dBin, ↓dBinB, ↓dTup, ↓dLst, ↓dUn, ↓dIf, ↓dAndB, ↓dOrB, ↓dAndV, ↓dOrV, ↓dNotV, ↓D.tru, ↓dNotB, ↓dVal, ↓dIsi, ↓dIsiT, ↓dFld, ↓dCall, ↓dMake, ↓dEq, ↓dEqB, ↓dEqD, ↓dV, ↓dVR, ↓dC, ↓dTrue, ↓dTru, ↓tgTup, ↓tgsCons, ↓tgName, ↓tgsNil, ↓wipeE, ↓bSum, ↓bLen, ↓bAbs, ↓bTup, ↓bLst, ↓bAll, ↓bAny, ↓intsD, ↓boolsD, ↓D.add, ↓D.sub, ↓D.neg, ↓D.ix, ↓atI, ↓ixN, ↓D.mod, ↓D.kl, ↓Kl.sub, ↓Kl.subs, ↓Cn.fields, ↓cLt, ↓cLe, ↓cGe, ↓cGtA, ↓cIs, ↓cIsNot, ↓D.isNon, ↓D.items, ↓rng, ↓okR, ↓lim, ↓eq0, ↓dMeth, ↓dGet1, ↓keyD, ↓sFrz, ↓sOwn, ↓sApp, ↓dDrw0, ↓dDrw1, ↓sInc, ↓dLenS, ↓dIxS, ↓dNeS, ↓dPow, ↓bInt, ↓eqT, F_times, S_times, mul_sm ha]
theorem g3_pos {a b c : Int} (h : ¬ (a = 0 ∧ b = 0 ∧ c = 0)) : 0 < g3 a b c := by
  have h1 : 0 < Int.gcd (Int.gcd a b) c := by
    rcases Nat.eq_zero_or_pos (Int.gcd (Int.gcd a b) c) with z | z
    · have h2 := Int.gcd_eq_zero_iff.mp z
      have h3 := Int.gcd_eq_zero_iff.mp (show Int.gcd a b = 0 by omega)
      exact absurd ⟨h3.1, h3.2, h2.2⟩ h
    · exact z
  show (0 : Int) < ((Int.gcd (Int.gcd a b) c : Nat) : Int)
  omega
theorem g3_dvd (a b c : Int) : g3 a b c ∣ a ∧ g3 a b c ∣ b ∧ g3 a b c ∣ c := by
  have h1 : ((Int.gcd (Int.gcd a b) c : Nat) : Int) ∣ ((Int.gcd a b : Nat) : Int) := Int.gcd_dvd_left ..
  exact ⟨Int.dvd_trans h1 (Int.gcd_dvd_left ..), Int.dvd_trans h1 (Int.gcd_dvd_right ..), Int.gcd_dvd_right ..⟩
theorem g3_ok {a b c : Int} (h : ¬ (a = 0 ∧ b = 0 ∧ c = 0)) (ha : a.natAbs < 2 ^ 64) (hb : b.natAbs < 2 ^ 64) (hc : c.natAbs < 2 ^ 64) : divOk (g3 a b c) = true := by
  have hp := g3_pos h
  obtain ⟨d1, d2, d3⟩ := g3_dvd a b c
  refine divOk_of hp ?_
  have le : ∀ x : Int, g3 a b c ∣ x → x ≠ 0 → (g3 a b c).natAbs ≤ x.natAbs := fun x hd hx => Nat.le_of_dvd (by omega) (Int.natAbs_dvd_natAbs.mpr hd)
  by_cases z : a = 0
  · by_cases z2 : b = 0
    · have := le c d3 (fun z3 => h ⟨z, z2, z3⟩); omega
    · have := le b d2 z2; omega
  · have := le a d1 z; omega
theorem g3_mul {a b c n : Int} (hn : 0 < n) : g3 (n * a) (n * b) (n * c) = n * g3 a b c := by
  have e : ((n.natAbs : Nat) : Int) = n := by omega
  show ((Int.gcd (Int.gcd (n * a) (n * b)) (n * c) : Nat) : Int) = _
  rw [Int.gcd_mul_left, Int.natCast_mul, e, Int.gcd_mul_left, Int.natCast_mul, e]
theorem g3_neg {a b c : Int} : g3 (-a) (-b) (-c) = g3 a b c := by
  simp [g3]
/-- in lowest terms -/
theorem g3_div {a b c : Int} (h : ¬ (a = 0 ∧ b = 0 ∧ c = 0)) : g3 (a / g3 a b c) (b / g3 a b c) (c / g3 a b c) = 1 := by
  have hp := g3_pos h
  obtain ⟨d1, d2, d3⟩ := g3_dvd a b c
  have := g3_mul (a := a / g3 a b c) (b := b / g3 a b c) (c := c / g3 a b c) hp
  rw [Int.mul_ediv_cancel' d1, Int.mul_ediv_cancel' d2, Int.mul_ediv_cancel' d3] at this
  have h' : g3 a b c * 1 = g3 a b c * g3 (a / g3 a b c) (b / g3 a b c) (c / g3 a b c) := by rw [Int.mul_one]; exact this
  exact (Int.eq_of_mul_eq_mul_left (by omega) h').symm
end Sky

end
section
namespace Sky
open PySem PySem.Spec PyProof.Rows L2
/-- the turn of four numbers -/
structure IsQ (m : M9) (w : Int) (a b c d : Int) : Prop where
  ex : ∃ g, 0 < g ∧ m.sc g = Rq a b c d ∧ g * w = Nq a b c d
  v : Va m w
  l : Low m w
theorem IsQ.TN {m : M9} {w a b c d : Int} (q : IsQ m w a b c d) : TN (Rq a b c d) (Nq a b c d) = tnD m w := by
  obtain ⟨⟨g, hg, e1, e2⟩, v, l⟩ := q
  rw [← e1, ← e2, TN_sc hg, l.TN]
theorem IsQ.of {a b c d : Int} (h : ¬ (a = 0 ∧ b = 0 ∧ c = 0 ∧ d = 0)) : ∃ m w, Sky.TN (Rq a b c d) (Nq a b c d) = tnD m w ∧ IsQ m w a b c d := by
  obtain ⟨n, u, g, e, hg, e1, e2, v, l⟩ := TN_get (va_Rq h)
  exact ⟨n, u, e, ⟨g, hg, e1, e2⟩, v, l⟩
theorem IsQ.le {m : M9} {w a b c d : Int} (q : IsQ m w a b c d) : 0 < w ∧ w ≤ Nq a b c d := by
  obtain ⟨⟨g, hg, e1, e2⟩, v, l⟩ := q
  refine ⟨v.p, ?_⟩
  rw [← e2]
  have := Int.mul_le_mul_of_nonneg_right (show (1 : Int) ≤ g by omega) (Int.le_of_lt v.p)
  omega
theorem Nq_mul (a b c d x y z u : Int) : Nq (a * x - b * y - c * z - d * u) (a * y + b * x + c * u - d * z) (a * z - b * u + c * x + d * y) (a * u + b * z - c * y + d * x) = Nq a b c d * Nq x y z u := by
  simp only [Nq]; grind
theorem Rq_mul (a b c d x y z u : Int) : (Rq a b c d).mul (Rq x y z u) = Rq (a * x - b * y - c * z - d * u) (a * y + b * x + c * u - d * z) (a * z - b * u + c * x + d * y) (a * u + b * z - c * y + d * x) := by
  simp only [Rq, M9.mul, M9.mk.injEq]
  refine ⟨?_, ?_, ?_, ?_, ?_, ?_, ?_, ?_, ?_⟩ <;> grind
theorem mul_sc (n m : M9) (p q : Int) : (n.sc p).mul (m.sc q) = (n.mul m).sc (p * q) := by
  simp only [M9.mul, M9.sc, M9.mk.injEq]
  refine ⟨?_, ?_, ?_, ?_, ?_, ?_, ?_, ?_, ?_⟩ <;> grind
theorem Nq_ne {a b c d : Int} (h : 0 < Nq a b c d) : ¬ (a = 0 ∧ b = 0 ∧ c = 0 ∧ d = 0) := by
  rintro ⟨rfl, rfl, rfl, rfl⟩
  simp [Nq] at h
/-- a turn, then another: the product of their numbers -/
theorem then_q {m n : M9} {w u a b c d x y z t : Int} {k : Nat} (q : IsQ m w a b c d) (p : IsQ n u x y z t) (hb : Nq a b c d * Nq x y z t < 18446744073709551616) :
    ∃ m' w', F_then [tnD n u, tnD m w] k = some (tnD m' w', k) ∧ IsQ m' w' (a * x - b * y - c * z - d * t) (a * y + b * x + c * t - d * z) (a * z - b * t + c * x + d * y) (a * t + b * z - c * y + d * x) := by
  obtain ⟨g1, g2⟩ := q.le
  obtain ⟨h1, h2⟩ := p.le
  have hN : 0 < Nq a b c d * Nq x y z t := Int.mul_pos (by omega) (by omega)
  obtain ⟨m', w', e, q'⟩ := IsQ.of (Nq_ne (by rw [Nq_mul a b c d x y z t]; exact hN))
  refine ⟨m', w', ?_, q'⟩
  have l1 : w * u ≤ Nq a b c d * Nq x y z t := Int.mul_le_mul g2 h2 (by omega) (by omega)
  have l2 : w ≤ w * u := by have := Int.mul_le_mul_of_nonneg_left (show (1 : Int) ≤ u by omega) (Int.le_of_lt g1); omega
  have l3 : u ≤ w * u := by have := Int.mul_le_mul_of_nonneg_right (show (1 : Int) ≤ w by omega) (Int.le_of_lt h1); omega
  have hwu : 0 < w * u := Int.mul_pos g1 h1
  rw [then_spec p.v q.v p.l (by omega) (by omega) (by omega), ← e]
  obtain ⟨⟨g, hg, e1, e2⟩, v, l⟩ := q
  obtain ⟨⟨h, hh, f1, f2⟩, v', l'⟩ := p
  have key : TN (m.mul n) (w * u) = TN (Rq (a * x - b * y - c * z - d * t) (a * y + b * x + c * t - d * z) (a * z - b * t + c * x + d * y) (a * t + b * z - c * y + d * x)) (Nq (a * x - b * y - c * z - d * t) (a * y + b * x + c * t - d * z) (a * z - b * t + c * x + d * y) (a * t + b * z - c * y + d * x)) := by
    rw [Nq_mul, ← Rq_mul, ← e1, ← f1, ← e2, ← f2, mul_sc, ← TN_sc (m := m.mul n) (w := w * u) (Int.mul_pos hg hh)]
    congr 1
    grind
  rw [key]
theorem sq0 {x : Int} (h : x * x = 0) : x = 0 := by rcases Int.mul_eq_zero.mp h with e | e <;> exact e
/-- it changes nothing exactly if three of its numbers are 0 -/
theorem IsQ.one {m : M9} {w a b c d : Int} (q : IsQ m w a b c d) : (m = I9 ∧ w = 1) ↔ (b = 0 ∧ c = 0 ∧ d = 0) := by
  constructor
  · rintro ⟨rfl, rfl⟩
    obtain ⟨⟨g, hg, e1, e2⟩, v, l⟩ := q
    simp only [M9.sc, I9, Rq, Nq, M9.mk.injEq] at e1 e2
    obtain ⟨h1, _, _, _, h5, _⟩ := e1
    have b2 := sq_nn b; have c2 := sq_nn c; have d2 := sq_nn d
    exact ⟨sq0 (by omega), sq0 (by omega), sq0 (by omega)⟩
  · rintro ⟨rfl, rfl, rfl⟩
    have e := q.TN
    have hN := q.le
    have ha : 0 < a * a := by simp only [Nq] at hN; omega
    have e2 : Sky.TN (Rq a 0 0 0) (Nq a 0 0 0) = Sky.TN I9 1 := TN_eq (p := 1) (q := a * a) (by decide) ha (by simp [Rq, I9, M9.sc]) (by simp [Nq])
    rw [e2, low_one.TN] at e
    have e3 : tnD I9 1 = tnD m w := e
    cases m
    simp [tnD, v3, M9.rows, I9] at e3
    simp [I9]
    omega
end Sky

end
section
namespace Sky
open PySem PySem.Spec PyProof.Rows L2
/-- n turns of (a, v): (A, B v); how often until all is as it was -/
def ordQ (a b c d : Int) : List Int → Int → Int → Option Int
  | [], _, _ => none
  | n :: ns, A, B => if B * b = 0 ∧ B * c = 0 ∧ B * d = 0 then some n else ordQ a b c d ns (a * A - B * (b * b + c * c + d * d)) (A + a * B)
theorem eqT_turn {m n : M9} {w u : Int} {k : Nat} {f g : Sem} {ρ : Env} {k0 k1 : Nat} {neg : Bool} (hf : f ρ k0 = some (tnD m w, k1)) (hg : g ρ k1 = some (tnD n u, k)) : dEqB eqT neg f g ρ k0 = some (xor neg (decide (m = n ∧ w = u)), k) := by
  have e := turn_eq_spec (m := m) (n := n) (w := w) (u := u) (k := k)
  simp only [dEqB, dEq, M.bind, hf, hg, dEqD, eqT, D.kl, e, M.pure]
theorem ord_loop {m : M9} {w a b c d : Int} (q : IsQ m w a b c d) (hN : Nq a b c d ≤ 16) {k : Nat} : ∀ (L : List Int) (A B : Int) (n : M9) (u : Int) (s : Slot), IsQ n u A (B * b) (B * c) (B * d) → Nq A (B * b) (B * c) (B * d) * (16 ^ L.length : Nat) ≤ 16 ^ 13 →
    (∃ n' u' s', forLoop (tgName 3) (sSeq (sIf (dEqB eqT false (dV 2) (dCall 0 F_no_turn dNil)) (sSeq (sRet (dV 3)) (sNext)) (sNext)) (sSeq (sAsg (dCall 2 F_then (dCons (dV 2) (dCons (dV 0) (dNil)))) (tgName 2)) (sNext))) (L.map D.int) [.val (tnD m w), .val (.int 12), .val (tnD n u), s] k =
      some ((match ordQ a b c d L A B with
        | some i => .ret (.int i)
        | none => .nx [.val (tnD m w), .val (.int 12), .val (tnD n' u'), s']), k)) := by
  intro L
  induction L with
  | nil => intro A B n u s h hb; exact ⟨n, u, s, rfl⟩
  | cons i L ih =>
    intro A B n u s h hb
    have hno : (dCall 0 F_no_turn dNil) [.val (tnD m w), .val (.int 12), .val (tnD n u), .val (.int i)] k = some (tnD I9 1, k) := by
      have := no_turn_spec (k := k)
      simp [↓runB, ↓runI, ↓startE, ↓startI, ↓sSeq, ↓sRet, ↓sRetN, ↓sIf, ↓sAsg, ↓sDrop, ↓sFail, ↓sNext, ↓sPar2, ↓sPar3, ↓sFor, ↓forLoop, ↓sMe, ↓M.bind, ↓M.pure, ↓M.lift, ↓M.fail, ↓dBi, ↓dLc, ↓lcLoop, ↓dZip, ↓zipD, ↓pairD, ↓dEnumA, ↓enumD, ↓rangeD, ↓dRng, ↓dItems, ↓dCons, ↓dNil, ↓dBin, ↓dBinB, ↓dTup, ↓dLst, ↓dUn, ↓dIf, ↓dAndB, ↓dOrB, ↓dAndV, ↓dOrV, ↓dNotV, ↓D.tru, ↓dNotB, ↓dVal, ↓dIsi, ↓dIsiT, ↓dFld, ↓dCall, ↓dMake, ↓dEq, ↓dEqB, ↓dEqD, ↓dV, ↓dVR, ↓dC, ↓dTrue, ↓dTru, ↓tgTup, ↓tgsCons, ↓tgName, ↓tgsNil, ↓wipeE, ↓bSum, ↓bLen, ↓bAbs, ↓bTup, ↓bLst, ↓bAll, ↓bAny, ↓intsD, ↓boolsD, ↓D.add, ↓D.sub, ↓D.neg, ↓D.ix, ↓atI, ↓ixN, ↓D.mod, ↓D.kl, ↓Kl.sub, ↓Kl.subs, ↓Cn.fields, ↓cLt, ↓cLe, ↓cGe, ↓cGtA, ↓cIs, ↓cIsNot, ↓D.isNon, ↓D.items, ↓rng, ↓okR, ↓lim, ↓eq0, ↓dMeth, ↓dGet1, ↓keyD, ↓sFrz, ↓sOwn, ↓sApp, ↓dDrw0, ↓dDrw1, ↓sInc, ↓dLenS, ↓dIxS, ↓dNeS, ↓dPow, ↓bInt, ↓eqT, this]
    have ht := eqT_turn (neg := false) (f := dV 2) (g := dCall 0 F_no_turn dNil) (ρ := [.val (tnD m w), .val (.int 12), .val (tnD n u), .val (.int i)]) (k0 := k) (k1 := k) (k := k) (m := n) (w := u) (n := I9) (u := 1) rfl hno
    rw [show (xor false (decide (n = I9 ∧ u = 1))) = decide (n = I9 ∧ u = 1) from by cases decide (n = I9 ∧ u = 1) <;> rfl] at ht
    unfold ordQ
    simp only [List.map_cons]
    unfold forLoop
    have hset : (tgName 3).put (D.int i) [.val (tnD m w), .val (.int 12), .val (tnD n u), s] = some [.val (tnD m w), .val (.int 12), .val (tnD n u), .val (.int i)] := rfl
    rw [hset]
    by_cases z : B * b = 0 ∧ B * c = 0 ∧ B * d = 0
    · rw [if_pos z]
      have hd : decide (n = I9 ∧ u = 1) = true := decide_eq_true (h.one.mpr z)
      rw [hd] at ht
      refine ⟨n, u, s, ?_⟩
      simp only [M.bind, sSeq, sIf, ht]
      rfl
    · rw [if_neg z]
      have hd : decide (n = I9 ∧ u = 1) = false := decide_eq_false fun e => z (h.one.mp e)
      rw [hd] at ht
      have l1 := h.le
      have l2 := q.le
      have hpos : (1 : Int) ≤ (16 ^ L.length : Nat) := by have := Nat.pow_pos (n := L.length) (show 0 < 16 by decide); omega
      have hN2 : 0 < Nq A (B * b) (B * c) (B * d) := by omega
      have hb1 : Nq A (B * b) (B * c) (B * d) * 16 * (16 ^ L.length : Nat) ≤ 16 ^ 13 := by
        have e : ((16 ^ (L.length + 1) : Nat) : Int) = 16 * (16 ^ L.length : Nat) := by rw [Nat.pow_succ, Nat.mul_comm, Int.natCast_mul]; rfl
        have hb' : Nq A (B * b) (B * c) (B * d) * ((16 ^ (L.length + 1) : Nat) : Int) ≤ 16 ^ 13 := hb
        rw [e, ← Int.mul_assoc] at hb'
        exact hb'
      have hb2 : Nq A (B * b) (B * c) (B * d) * 16 ≤ Nq A (B * b) (B * c) (B * d) * 16 * (16 ^ L.length : Nat) := by
        have := Int.mul_le_mul_of_nonneg_left hpos (show 0 ≤ Nq A (B * b) (B * c) (B * d) * 16 by omega)
        omega
      have hb3 : Nq a b c d * Nq A (B * b) (B * c) (B * d) ≤ 16 * Nq A (B * b) (B * c) (B * d) := Int.mul_le_mul_of_nonneg_right hN (by omega)
      obtain ⟨m', w', e, q'⟩ := then_q (k := k) q h (by omega)
      have e1 : a * A - b * (B * b) - c * (B * c) - d * (B * d) = a * A - B * (b * b + c * c + d * d) := by grind
      have e2 : a * (B * b) + b * A + c * (B * d) - d * (B * c) = (A + a * B) * b := by grind
      have e3 : a * (B * c) - b * (B * d) + c * A + d * (B * b) = (A + a * B) * c := by grind
      have e4 : a * (B * d) + b * (B * c) - c * (B * b) + d * A = (A + a * B) * d := by grind
      have hm := Nq_mul a b c d A (B * b) (B * c) (B * d)
      rw [e1, e2, e3, e4] at q' hm
      obtain ⟨n', u', s', hr⟩ := ih _ _ m' w' (.val (.int i)) q' (by
        rw [hm]
        have : Nq a b c d * Nq A (B * b) (B * c) (B * d) * (16 ^ L.length : Nat) ≤ 16 * Nq A (B * b) (B * c) (B * d) * (16 ^ L.length : Nat) := Int.mul_le_mul_of_nonneg_right hb3 (by omega)
        have e5 : 16 * Nq A (B * b) (B * c) (B * d) * ((16 ^ L.length : Nat) : Int) = Nq A (B * b) (B * c) (B * d) * 16 * (16 ^ L.length : Nat) := by grind
        omega)
      refine ⟨n', u', s', ?_⟩
      have step : (sSeq (sIf (dEqB eqT false (dV 2) (dCall 0 F_no_turn dNil)) (sSeq (sRet (dV 3)) (sNext)) (sNext)) (sSeq (sAsg (dCall 2 F_then (dCons (dV 2) (dCons (dV 0) (dNil)))) (tgName 2)) (sNext))) [.val (tnD m w), .val (.int 12), .val (tnD n u), .val (.int i)] k = some (.nx [.val (tnD m w), .val (.int 12), .val (tnD m' w'), .val (.int i)], k) := by
        have hi : sIf (dEqB eqT false (dV 2) (dCall 0 F_no_turn dNil)) (sSeq (sRet (dV 3)) (sNext)) (sNext) [.val (tnD m w), .val (.int 12), .val (tnD n u), .val (.int i)] k = some (.nx [.val (tnD m w), .val (.int 12), .val (tnD n u), .val (.int i)], k) := by
          simp only [sIf, M.bind, ht]; rfl
        rw [seq_nx hi]
        have ha : sAsg (dCall 2 F_then (dCons (dV 2) (dCons (dV 0) (dNil)))) (tgName 2) [.val (tnD m w), .val (.int 12), .val (tnD n u), .val (.int i)] k = some (.nx [.val (tnD m w), .val (.int 12), .val (tnD m' w'), .val (.int i)], k) := by
          simp [↓sAsg, ↓dCall, ↓dCons, ↓dNil, ↓dV, ↓M.bind, ↓M.pure, ↓tgName, e]
        rw [seq_nx ha]; rfl
      simp only [M.bind, step]
      exact hr
theorem order_spec {m : M9} {w a b c d : Int} (q : IsQ m w a b c d) (hN : Nq a b c d ≤ 16) {k : Nat} : F_order_of [tnD m w, .int 12] k = some ((match ordQ a b c d [1, 2, 3, 4, 5, 6, 7, 8, 9, 10, 11, 12] a 1 with
    | some i => .int i
    | none => .non), k) := by
  obtain ⟨n', u', s', h⟩ := ord_loop q hN (k := k) [1, 2, 3, 4, 5, 6, 7, 8, 9, 10, 11, 12] a 1 m w .no (by simpa using q) (by
    have : (16 ^ ([1, 2, 3, 4, 5, 6, 7, 8, 9, 10, 11, 12] : List Int).length : Nat) = 16 ^ 12 := rfl
    rw [this]
    simp only [Int.one_mul]
    omega)
  have ck : F_check_number [.str "most", .int 12, .int 0, .int 999] k = some (.non, k) := by
    have e : F_is_number [.int 12, .int 0, .int 999] k = some (.bl true, k) := by simp [↓runB, ↓runI, ↓startE, ↓startI, ↓sSeq, ↓sRet, ↓sRetN, ↓sIf, ↓sAsg, ↓sDrop, ↓sFail, ↓sNext, ↓sPar2, ↓sPar3, ↓sFor, ↓forLoop, ↓sMe, ↓M.bind, ↓M.pure, ↓M.lift, ↓M.fail, ↓dBi, ↓dLc, ↓lcLoop, ↓dZip, ↓zipD, ↓pairD, ↓dEnumA, ↓enumD, ↓rangeD, ↓dRng, ↓dItems, ↓dCons, ↓dNil, ↓dBin, ↓dBinB, ↓dTup, ↓dLst, ↓dUn, ↓dIf, ↓dAndB, ↓dOrB, ↓dAndV, ↓dOrV, ↓dNotV, ↓D.tru, ↓dNotB, ↓dVal, ↓dIsi, ↓dIsiT, ↓dFld, ↓dCall, ↓dMake, ↓dEq, ↓dEqB, ↓dEqD, ↓dV, ↓dVR, ↓dC, ↓dTrue, ↓dTru, ↓tgTup, ↓tgsCons, ↓tgName, ↓tgsNil, ↓wipeE, ↓bSum, ↓bLen, ↓bAbs, ↓bTup, ↓bLst, ↓bAll, ↓bAny, ↓intsD, ↓boolsD, ↓D.add, ↓D.sub, ↓D.neg, ↓D.ix, ↓atI, ↓ixN, ↓D.mod, ↓D.kl, ↓Kl.sub, ↓Kl.subs, ↓Cn.fields, ↓cLt, ↓cLe, ↓cGe, ↓cGtA, ↓cIs, ↓cIsNot, ↓D.isNon, ↓D.items, ↓rng, ↓okR, ↓lim, ↓eq0, ↓dMeth, ↓dGet1, ↓keyD, ↓sFrz, ↓sOwn, ↓sApp, ↓dDrw0, ↓dDrw1, ↓sInc, ↓dLenS, ↓dIxS, ↓dNeS, ↓dPow, ↓bInt, ↓eqT, dChain, F_is_number, S_is_number]
    simp [↓runB, ↓runI, ↓startE, ↓startI, ↓sSeq, ↓sRet, ↓sRetN, ↓sIf, ↓sAsg, ↓sDrop, ↓sFail, ↓sNext, ↓sPar2, ↓sPar3, ↓sFor, ↓forLoop, ↓sMe, ↓M.bind, ↓M.pure, ↓M.lift, ↓M.fail, ↓dBi, ↓dLc, ↓lcLoop, ↓dZip, ↓zipD, ↓pairD, ↓dEnumA, ↓enumD, ↓rangeD, ↓dRng, ↓dItems, ↓dCons, ↓dNil, ↓dBin, ↓dBinB, ↓dTup, ↓dLst, ↓dUn, ↓dIf, ↓dAndB, ↓dOrB, ↓dAndV, ↓dOrV, ↓dNotV, ↓D.tru, ↓dNotB, ↓dVal, ↓dIsi, ↓dIsiT, ↓dFld, ↓dCall, ↓dMake, ↓dEq, ↓dEqB, ↓dEqD, ↓dV, ↓dVR, ↓dC, ↓dTrue, ↓dTru, ↓tgTup, ↓tgsCons, ↓tgName, ↓tgsNil, ↓wipeE, ↓bSum, ↓bLen, ↓bAbs, ↓bTup, ↓bLst, ↓bAll, ↓bAny, ↓intsD, ↓boolsD, ↓D.add, ↓D.sub, ↓D.neg, ↓D.ix, ↓atI, ↓ixN, ↓D.mod, ↓D.kl, ↓Kl.sub, ↓Kl.subs, ↓Cn.fields, ↓cLt, ↓cLe, ↓cGe, ↓cGtA, ↓cIs, ↓cIsNot, ↓D.isNon, ↓D.items, ↓rng, ↓okR, ↓lim, ↓eq0, ↓dMeth, ↓dGet1, ↓keyD, ↓sFrz, ↓sOwn, ↓sApp, ↓dDrw0, ↓dDrw1, ↓sInc, ↓dLenS, ↓dIxS, ↓dNeS, ↓dPow, ↓bInt, ↓eqT, F_check_number, S_check_number, e]
  unfold F_order_of runB S_order_of
  have st : startE 4 [tnD m w, .int 12] = [.val (tnD m w), .val (.int 12), .no, .no] := rfl
  rw [st, seq_nx (ρ' := [.val (tnD m w), .val (.int 12), .no, .no]) (k' := k) (by simp [↓sDrop, ↓dCall, ↓dCons, ↓dNil, ↓dV, ↓M.bind, ↓M.pure, check_turn_spec]),
    seq_nx (ρ' := [.val (tnD m w), .val (.int 12), .no, .no]) (k' := k) (by simp [↓sDrop, ↓dCall, ↓dCons, ↓dNil, ↓dV, ↓dC, ↓M.bind, ↓M.pure, ck]),
    seq_nx (ρ' := [.val (tnD m w), .val (.int 12), .val (tnD m w), .no]) (k' := k) rfl]
  have hf : sFor (dRng (dCons (dC (.int 1)) (dCons (dBin D.add (dV 1) (dC (.int 1))) dNil))) (tgName 3) (sSeq (sIf (dEqB eqT false (dV 2) (dCall 0 F_no_turn dNil)) (sSeq (sRet (dV 3)) (sNext)) (sNext)) (sSeq (sAsg (dCall 2 F_then (dCons (dV 2) (dCons (dV 0) (dNil)))) (tgName 2)) (sNext))) [.val (tnD m w), .val (.int 12), .val (tnD m w), .no] k = some ((match ordQ a b c d [1, 2, 3, 4, 5, 6, 7, 8, 9, 10, 11, 12] a 1 with
        | some i => .ret (.int i)
        | none => .nx [.val (tnD m w), .val (.int 12), .val (tnD n' u'), s']), k) := by
    rw [← h]
    rfl
  simp only [sSeq, M.bind] at hf ⊢
  rw [hf]
  cases ordQ a b c d [1, 2, 3, 4, 5, 6, 7, 8, 9, 10, 11, 12] a 1 <;> rfl
end Sky

end
section
namespace Sky
open PySem PySem.Spec PyProof.Rows L2
theorem IsQ.dt {m : M9} {w a b c d : Int} (q : IsQ m w a b c d) : 0 < dt m := by
  obtain ⟨⟨g, hg, e1, e2⟩, v, l⟩ := q
  have h := (dt_sc_pos (m := m) hg).1.mp (by
    rw [e1, dt_Rq, ← e2]
    have := Int.mul_pos hg v.p
    exact Int.mul_pos (Int.mul_pos this this) this)
  exact h
theorem bd_ms {p q r s : Int} {n : Nat} (hp : p.natAbs ≤ n) (hq : q.natAbs ≤ n) (hr : r.natAbs ≤ n) (hs : s.natAbs ≤ n) : (p * q - r * s).natAbs ≤ 2 * (n * n) := by
  have h1 : (p * q).natAbs ≤ n * n := by rw [Int.natAbs_mul]; exact Nat.mul_le_mul hp hq
  have h2 : (r * s).natAbs ≤ n * n := by rw [Int.natAbs_mul]; exact Nat.mul_le_mul hr hs
  omega
/-- parallel, the one in lowest terms: a whole multiple -/
theorem par {t G x y z b c d : Int} (ht : t ≠ 0) (hG : 0 < G) (e1 : t * b = G * x) (e2 : t * c = G * y) (e3 : t * d = G * z) (h : g3 x y z = 1) : ∃ l, l ≠ 0 ∧ b = l * x ∧ c = l * y ∧ d = l * z := by
  have hg : g3 (t * b) (t * c) (t * d) = G := by rw [e1, e2, e3, g3_mul hG, h, Int.mul_one]
  rcases Int.lt_or_lt_of_ne ht with n | p
  · have e : g3 (t * b) (t * c) (t * d) = (-t) * g3 b c d := by
      rw [← g3_mul (show 0 < -t by omega), ← g3_neg]
      congr 1 <;> grind
    rw [e] at hg
    refine ⟨-(g3 b c d), ?_, ?_, ?_, ?_⟩
    · intro z; rw [show g3 b c d = 0 by omega] at hg; omega
    · refine Int.eq_of_mul_eq_mul_left ht ?_; grind
    · refine Int.eq_of_mul_eq_mul_left ht ?_; grind
    · refine Int.eq_of_mul_eq_mul_left ht ?_; grind
  · rw [g3_mul p] at hg
    refine ⟨g3 b c d, ?_, ?_, ?_, ?_⟩
    · intro z; rw [z] at hg; omega
    · refine Int.eq_of_mul_eq_mul_left ht ?_; grind
    · refine Int.eq_of_mul_eq_mul_left ht ?_; grind
    · refine Int.eq_of_mul_eq_mul_left ht ?_; grind
/-- what the end of axis_of tells of a triple -/
def Ax (p q r : Int) (o : D) : Prop := ∃ x y z s, o = v3 x y z ∧ g3 x y z = 1 ∧ s ≠ 0 ∧ (s = 1 ∨ s = -1) ∧ s * p = g3 p q r * x ∧ s * q = g3 p q r * y ∧ s * r = g3 p q r * z
theorem ax_end {p q r : Int} {k : Nat} {a0 a1 a2 a3 a4 a5 a6 a7 : Slot} (h : ¬ (p = 0 ∧ q = 0 ∧ r = 0)) (hp : p.natAbs < 2 ^ 64) (hq : q.natAbs < 2 ^ 64) (hr : r.natAbs < 2 ^ 64) {f : Sem} (hf : f [a0, a1, a2, a3, a4, a5, a6, a7] k = some (v3 p q r, k)) :
    ∃ o, Ax p q r o ∧ (sSeq (sIf (dEqB eqT true f (dTup (dCons (dC (.int 0)) (dCons (dC (.int 0)) (dCons (dC (.int 0)) (dNil)))))) (sSeq (sAsg (dCall 1 F_least (dCons f (dNil))) (tgName 4)) (sSeq (sRet (dIf (dBinB cGtA (dV 4) (dTup (dCons (dC (.int 0)) (dCons (dC (.int 0)) (dCons (dC (.int 0)) (dNil)))))) (dV 4) (dCall 2 F_times (dCons (dUn D.neg (dC (.int 1))) (dCons (dV 4) (dNil)))))) (sNext))) (sNext)) (sNext)) [a0, a1, a2, a3, a4, a5, a6, a7] k = some (.ret o, k) := by
  have hd := g3_ok h hp hq hr
  have hl := least_spec (k := k) h hd
  have h1 := g3_div h
  obtain ⟨d1, d2, d3⟩ := g3_dvd p q r
  have ht := times_spec (a := -1) (x := p / g3 p q r) (y := q / g3 p q r) (z := r / g3 p q r) (k := k) (by decide)
  have f1 := Int.mul_ediv_cancel' d1
  have f2 := Int.mul_ediv_cancel' d2
  have f3 := Int.mul_ediv_cancel' d3
  cases c : lexGt [p / g3 p q r, q / g3 p q r, r / g3 p q r] [0, 0, 0] with
  | true =>
    refine ⟨v3 (p / g3 p q r) (q / g3 p q r) (r / g3 p q r), ⟨_, _, _, 1, rfl, h1, by decide, .inl rfl, by omega, by omega, by omega⟩, ?_⟩
    simp [↓runB, ↓runI, ↓startE, ↓startI, ↓sSeq, ↓sRet, ↓sRetN, ↓sIf, ↓sAsg, ↓sDrop, ↓sFail, ↓sNext, ↓sPar2, ↓sPar3, ↓sFor, ↓forLoop, ↓sMe, ↓M.bind, ↓M.pure, ↓M.lift, ↓M.fail, ↓dBi, ↓dLc, ↓lcLoop, ↓dZip, ↓zipD, ↓pairD, ↓dEnumA, ↓enumD, ↓rangeD, ↓dRng, ↓dItems, ↓dCons, ↓dNil, ↓dBin, ↓dBinB, ↓dTup, ↓dLst, ↓dUn, ↓dIf, ↓dAndB, ↓dOrB, ↓dAndV, ↓dOrV, ↓dNotV, ↓D.tru, ↓dNotB, ↓dVal, ↓dIsi, ↓dIsiT, ↓dFld, ↓dCall, ↓dMake, ↓dEq, ↓dEqB, ↓dEqD, ↓dV, ↓dVR, ↓dC, ↓dTrue, ↓dTru, ↓tgTup, ↓tgsCons, ↓tgName, ↓tgsNil, ↓wipeE, ↓bSum, ↓bLen, ↓bAbs, ↓bTup, ↓bLst, ↓bAll, ↓bAny, ↓intsD, ↓boolsD, ↓D.add, ↓D.sub, ↓D.neg, ↓D.ix, ↓atI, ↓ixN, ↓D.mod, ↓D.kl, ↓Kl.sub, ↓Kl.subs, ↓Cn.fields, ↓cLt, ↓cLe, ↓cGe, ↓cGtA, ↓cIs, ↓cIsNot, ↓D.isNon, ↓D.items, ↓rng, ↓okR, ↓lim, ↓eq0, ↓dMeth, ↓dGet1, ↓keyD, ↓sFrz, ↓sOwn, ↓sApp, ↓dDrw0, ↓dDrw1, ↓sInc, ↓dLenS, ↓dIxS, ↓dNeS, ↓dPow, ↓bInt, ↓eqT, hf, h, hl, c]
  | false =>
    refine ⟨v3 (-1 * (p / g3 p q r)) (-1 * (q / g3 p q r)) (-1 * (r / g3 p q r)), ⟨_, _, _, -1, rfl, ?_, by decide, .inr rfl, ?_, ?_, ?_⟩, ?_⟩
    · rw [← g3_neg]; simpa using h1
    · rw [Int.neg_mul, Int.neg_mul, Int.one_mul, Int.one_mul, Int.mul_neg]; omega
    · rw [Int.neg_mul, Int.neg_mul, Int.one_mul, Int.one_mul, Int.mul_neg]; omega
    · rw [Int.neg_mul, Int.neg_mul, Int.one_mul, Int.one_mul, Int.mul_neg]; omega
    · simp [↓runB, ↓runI, ↓startE, ↓startI, ↓sSeq, ↓sRet, ↓sRetN, ↓sIf, ↓sAsg, ↓sDrop, ↓sFail, ↓sNext, ↓sPar2, ↓sPar3, ↓sFor, ↓forLoop, ↓sMe, ↓M.bind, ↓M.pure, ↓M.lift, ↓M.fail, ↓dBi, ↓dLc, ↓lcLoop, ↓dZip, ↓zipD, ↓pairD, ↓dEnumA, ↓enumD, ↓rangeD, ↓dRng, ↓dItems, ↓dCons, ↓dNil, ↓dBin, ↓dBinB, ↓dTup, ↓dLst, ↓dUn, ↓dIf, ↓dAndB, ↓dOrB, ↓dAndV, ↓dOrV, ↓dNotV, ↓D.tru, ↓dNotB, ↓dVal, ↓dIsi, ↓dIsiT, ↓dFld, ↓dCall, ↓dMake, ↓dEq, ↓dEqB, ↓dEqD, ↓dV, ↓dVR, ↓dC, ↓dTrue, ↓dTru, ↓tgTup, ↓tgsCons, ↓tgName, ↓tgsNil, ↓wipeE, ↓bSum, ↓bLen, ↓bAbs, ↓bTup, ↓bLst, ↓bAll, ↓bAny, ↓intsD, ↓boolsD, ↓D.add, ↓D.sub, ↓D.neg, ↓D.ix, ↓atI, ↓ixN, ↓D.mod, ↓D.kl, ↓Kl.sub, ↓Kl.subs, ↓Cn.fields, ↓cLt, ↓cLe, ↓cGe, ↓cGtA, ↓cIs, ↓cIsNot, ↓D.isNon, ↓D.items, ↓rng, ↓okR, ↓lim, ↓eq0, ↓dMeth, ↓dGet1, ↓keyD, ↓sFrz, ↓sOwn, ↓sApp, ↓dDrw0, ↓dDrw1, ↓sInc, ↓dLenS, ↓dIxS, ↓dNeS, ↓dPow, ↓bInt, ↓eqT, hf, h, hl, c, ht]
theorem ax_skip {k : Nat} {a0 a1 a2 a3 a4 a5 a6 a7 : Slot} {f : Sem} (hf : f [a0, a1, a2, a3, a4, a5, a6, a7] k = some (v3 0 0 0, k)) {g : SemS} :
    (sSeq (sIf (dEqB eqT true f (dTup (dCons (dC (.int 0)) (dCons (dC (.int 0)) (dCons (dC (.int 0)) (dNil)))))) g (sNext)) (sNext)) [a0, a1, a2, a3, a4, a5, a6, a7] k = some (.nx [a0, a1, a2, a3, a4, a5, a6, a7], k) := by
  simp [↓runB, ↓runI, ↓startE, ↓startI, ↓sSeq, ↓sRet, ↓sRetN, ↓sIf, ↓sAsg, ↓sDrop, ↓sFail, ↓sNext, ↓sPar2, ↓sPar3, ↓sFor, ↓forLoop, ↓sMe, ↓M.bind, ↓M.pure, ↓M.lift, ↓M.fail, ↓dBi, ↓dLc, ↓lcLoop, ↓dZip, ↓zipD, ↓pairD, ↓dEnumA, ↓enumD, ↓rangeD, ↓dRng, ↓dItems, ↓dCons, ↓dNil, ↓dBin, ↓dBinB, ↓dTup, ↓dLst, ↓dUn, ↓dIf, ↓dAndB, ↓dOrB, ↓dAndV, ↓dOrV, ↓dNotV, ↓D.tru, ↓dNotB, ↓dVal, ↓dIsi, ↓dIsiT, ↓dFld, ↓dCall, ↓dMake, ↓dEq, ↓dEqB, ↓dEqD, ↓dV, ↓dVR, ↓dC, ↓dTrue, ↓dTru, ↓tgTup, ↓tgsCons, ↓tgName, ↓tgsNil, ↓wipeE, ↓bSum, ↓bLen, ↓bAbs, ↓bTup, ↓bLst, ↓bAll, ↓bAny, ↓intsD, ↓boolsD, ↓D.add, ↓D.sub, ↓D.neg, ↓D.ix, ↓atI, ↓ixN, ↓D.mod, ↓D.kl, ↓Kl.sub, ↓Kl.subs, ↓Cn.fields, ↓cLt, ↓cLe, ↓cGe, ↓cGtA, ↓cIs, ↓cIsNot, ↓D.isNon, ↓D.items, ↓rng, ↓okR, ↓lim, ↓eq0, ↓dMeth, ↓dGet1, ↓keyD, ↓sFrz, ↓sOwn, ↓sApp, ↓dDrw0, ↓dDrw1, ↓sInc, ↓dLenS, ↓dIxS, ↓dNeS, ↓dPow, ↓bInt, ↓eqT, hf]
end Sky

end
section
namespace Sky
open PySem PySem.Spec PyProof.Rows L2
theorem ax_of {p q r g t b c d : Int} {o : D} (hg : 0 < g) (ht : t ≠ 0) (h : ¬ (p = 0 ∧ q = 0 ∧ r = 0)) (e1 : g * p = t * b) (e2 : g * q = t * c) (e3 : g * r = t * d) (ax : Ax p q r o) :
    ∃ x y z l, o = v3 x y z ∧ l ≠ 0 ∧ b = l * x ∧ c = l * y ∧ d = l * z ∧ g3 x y z = 1 := by
  obtain ⟨x, y, z, s, rfl, h1, hs, hs2, f1, f2, f3⟩ := ax
  have hG := Int.mul_pos hg (g3_pos h)
  obtain ⟨l, hl, l1, l2, l3⟩ := par (t := s * t) (G := g * g3 p q r) (x := x) (y := y) (z := z) (b := b) (c := c) (d := d) (Int.mul_ne_zero hs ht) hG (by grind) (by grind) (by grind) h1
  exact ⟨x, y, z, l, rfl, hl, l1, l2, l3, h1⟩
theorem k_fin {g w N p q r s P Q R S t v : Int} (hg : g ≠ 0) (hw : g * w = N) (hp : g * p = P) (hq : g * q = Q) (hr : g * r = R) (hs : g * s = S) (id : P * Q - R * S = N * (t * v)) : g * (p * q - r * s) = (t * w) * v := by
  refine Int.eq_of_mul_eq_mul_left hg ?_
  have e1 : g * (g * (p * q - r * s)) = P * Q - R * S := by subst hp hq hr hs; grind
  rw [e1, id, ← hw]; grind
theorem k1 (a b c d : Int) : (2 * (b * c - a * d)) * (2 * (c * d - a * b)) - (2 * (b * d + a * c)) * ((a * a - b * b + c * c - d * d) - (a * a + b * b + c * c + d * d)) = (a * a + b * b + c * c + d * d) * ((4 * d) * b) := by grind
theorem k2 (a b c d : Int) : (2 * (b * d + a * c)) * (2 * (b * c + a * d)) - ((a * a + b * b - c * c - d * d) - (a * a + b * b + c * c + d * d)) * (2 * (c * d - a * b)) = (a * a + b * b + c * c + d * d) * ((4 * d) * c) := by grind
theorem k3 (a b c d : Int) : ((a * a + b * b - c * c - d * d) - (a * a + b * b + c * c + d * d)) * ((a * a - b * b + c * c - d * d) - (a * a + b * b + c * c + d * d)) - (2 * (b * c - a * d)) * (2 * (b * c + a * d)) = (a * a + b * b + c * c + d * d) * ((4 * d) * d) := by grind
theorem k4 (a b c d : Int) : (2 * (b * c - a * d)) * ((a * a - b * b - c * c + d * d) - (a * a + b * b + c * c + d * d)) - (2 * (b * d + a * c)) * (2 * (c * d + a * b)) = (a * a + b * b + c * c + d * d) * ((-4 * c) * b) := by grind
theorem k5 (a b c d : Int) : (2 * (b * d + a * c)) * (2 * (b * d - a * c)) - ((a * a + b * b - c * c - d * d) - (a * a + b * b + c * c + d * d)) * ((a * a - b * b - c * c + d * d) - (a * a + b * b + c * c + d * d)) = (a * a + b * b + c * c + d * d) * ((-4 * c) * c) := by grind
theorem k6 (a b c d : Int) : ((a * a + b * b - c * c - d * d) - (a * a + b * b + c * c + d * d)) * (2 * (c * d + a * b)) - (2 * (b * c - a * d)) * (2 * (b * d - a * c)) = (a * a + b * b + c * c + d * d) * ((-4 * c) * d) := by grind
theorem k7 (a b c d : Int) : ((a * a - b * b + c * c - d * d) - (a * a + b * b + c * c + d * d)) * ((a * a - b * b - c * c + d * d) - (a * a + b * b + c * c + d * d)) - (2 * (c * d - a * b)) * (2 * (c * d + a * b)) = (a * a + b * b + c * c + d * d) * ((4 * b) * b) := by grind
theorem k8 (a b c d : Int) : (2 * (c * d - a * b)) * (2 * (b * d - a * c)) - (2 * (b * c + a * d)) * ((a * a - b * b - c * c + d * d) - (a * a + b * b + c * c + d * d)) = (a * a + b * b + c * c + d * d) * ((4 * b) * c) := by grind
theorem k9 (a b c d : Int) : (2 * (b * c + a * d)) * (2 * (c * d + a * b)) - ((a * a - b * b + c * c - d * d) - (a * a + b * b + c * c + d * d)) * (2 * (b * d - a * c)) = (a * a + b * b + c * c + d * d) * ((4 * b) * d) := by grind
theorem axis_spec {m : M9} {w a b c d : Int} (q : IsQ m w a b c d) (hN : Nq a b c d < 1048576) {k : Nat} :
    ((b = 0 ∧ c = 0 ∧ d = 0) → F_axis_of [tnD m w] k = some (.non, k)) ∧ (¬ (b = 0 ∧ c = 0 ∧ d = 0) → ∃ x y z l, F_axis_of [tnD m w] k = some (v3 x y z, k) ∧ l ≠ 0 ∧ b = l * x ∧ c = l * y ∧ d = l * z ∧ g3 x y z = 1) := by
  have hw := q.le
  have hdt := q.dt
  have hone := q.one
  have st : startE 8 [tnD m w] = [.val (tnD m w), .no, .no, .no, .no, .no, .no, .no] := rfl
  have hm : dTru (dMeth mt_is_mirrored "is_mirrored" (dV 0) dNil) [.val (tnD m w), .no, .no, .no, .no, .no, .no, .no] k = some (false, k) := by
    have := meth_mirrored (f := dV 0) (ρ := [.val (tnD m w), .no, .no, .no, .no, .no, .no, .no]) (k0 := k) (k := k) rfl q.v (by omega)
    rw [decide_eq_false (by omega)] at this
    simp only [dTru, M.bind, this]
    rfl
  have hno : (dCall 0 F_no_turn dNil) [.val (tnD m w), .no, .no, .no, .no, .no, .no, .no] k = some (tnD I9 1, k) := by
    have := no_turn_spec (k := k)
    simp [↓runB, ↓runI, ↓startE, ↓startI, ↓sSeq, ↓sRet, ↓sRetN, ↓sIf, ↓sAsg, ↓sDrop, ↓sFail, ↓sNext, ↓sPar2, ↓sPar3, ↓sFor, ↓forLoop, ↓sMe, ↓M.bind, ↓M.pure, ↓M.lift, ↓M.fail, ↓dBi, ↓dLc, ↓lcLoop, ↓dZip, ↓zipD, ↓pairD, ↓dEnumA, ↓enumD, ↓rangeD, ↓dRng, ↓dItems, ↓dCons, ↓dNil, ↓dBin, ↓dBinB, ↓dTup, ↓dLst, ↓dUn, ↓dIf, ↓dAndB, ↓dOrB, ↓dAndV, ↓dOrV, ↓dNotV, ↓D.tru, ↓dNotB, ↓dVal, ↓dIsi, ↓dIsiT, ↓dFld, ↓dCall, ↓dMake, ↓dEq, ↓dEqB, ↓dEqD, ↓dV, ↓dVR, ↓dC, ↓dTrue, ↓dTru, ↓tgTup, ↓tgsCons, ↓tgName, ↓tgsNil, ↓wipeE, ↓bSum, ↓bLen, ↓bAbs, ↓bTup, ↓bLst, ↓bAll, ↓bAny, ↓intsD, ↓boolsD, ↓D.add, ↓D.sub, ↓D.neg, ↓D.ix, ↓atI, ↓ixN, ↓D.mod, ↓D.kl, ↓Kl.sub, ↓Kl.subs, ↓Cn.fields, ↓cLt, ↓cLe, ↓cGe, ↓cGtA, ↓cIs, ↓cIsNot, ↓D.isNon, ↓D.items, ↓rng, ↓okR, ↓lim, ↓eq0, ↓dMeth, ↓dGet1, ↓keyD, ↓sFrz, ↓sOwn, ↓sApp, ↓dDrw0, ↓dDrw1, ↓sInc, ↓dLenS, ↓dIxS, ↓dNeS, ↓dPow, ↓bInt, ↓eqT, this]
  have ht := eqT_turn (neg := false) (f := dV 0) (g := dCall 0 F_no_turn dNil) (ρ := [.val (tnD m w), .no, .no, .no, .no, .no, .no, .no]) (k0 := k) (k1 := k) (k := k) (m := m) (w := w) (n := I9) (u := 1) rfl hno
  rw [show (xor false (decide (m = I9 ∧ w = 1))) = decide (m = I9 ∧ w = 1) from by cases decide (m = I9 ∧ w = 1) <;> rfl] at ht
  have hc : sDrop (dCall 1 F_check_turn (dCons (dV 0) (dNil))) [.val (tnD m w), .no, .no, .no, .no, .no, .no, .no] k = some (.nx [.val (tnD m w), .no, .no, .no, .no, .no, .no, .no], k) := by
    simp [↓sDrop, ↓dCall, ↓dCons, ↓dNil, ↓dV, ↓M.bind, ↓M.pure, check_turn_spec]
  refine ⟨fun z => ?_, fun z => ?_⟩
  · unfold F_axis_of runB S_axis_of
    rw [decide_eq_true (hone.mpr z)] at ht
    rw [st, seq_nx hc]
    simp only [sSeq, sIf, dOrB, M.bind, hm, ht, sRet, dC]
    rfl
  · rw [decide_eq_false (fun e => z (hone.mp e))] at ht
    have hi : sIf (dOrB (dTru (dMeth mt_is_mirrored "is_mirrored" (dV 0) dNil)) (dEqB eqT false (dV 0) (dCall 0 F_no_turn dNil))) (sSeq (sRet (dC .non)) (sNext)) (sNext) [.val (tnD m w), .no, .no, .no, .no, .no, .no, .no] k = some (.nx [.val (tnD m w), .no, .no, .no, .no, .no, .no, .no], k) := by
      simp only [sIf, dOrB, M.bind, hm, ht]
      rfl
    have hr3 : (List.range 3) = [0, 1, 2] := rfl
    have hrow : sAsg (dLc [5] (dRng (dCons (dC (.int 3)) dNil)) (tgName 5) (dTrue) (dBi bTup (dCons (dLc [6, 7] (dEnumA (dBin D.ix (dFld "rows" (dV 0)) (dV 5))) (tgTup 2 (tgsCons (tgName 6) (tgsCons (tgName 7) (tgsNil)))) (dTrue) (dBin D.sub (dV 7) (dIf (dEqB eqT false (dV 6) (dV 5)) (dFld "below" (dV 0)) (dC (.int 0))))) (dNil)))) (tgName 1) [.val (tnD m w), .no, .no, .no, .no, .no, .no, .no] k
        = some (.nx [.val (tnD m w), .val (.lst [v3 (m.a - w) m.b m.c, v3 m.d (m.e - w) m.f, v3 m.g m.h (m.i - w)]), .no, .no, .no, .no, .no, .no], k) := by
      simp [↓runB, ↓runI, ↓startE, ↓startI, ↓sSeq, ↓sRet, ↓sRetN, ↓sIf, ↓sAsg, ↓sDrop, ↓sFail, ↓sNext, ↓sPar2, ↓sPar3, ↓sFor, ↓forLoop, ↓sMe, ↓M.bind, ↓M.pure, ↓M.lift, ↓M.fail, ↓dBi, ↓dLc, ↓lcLoop, ↓dZip, ↓zipD, ↓pairD, ↓dEnumA, ↓enumD, ↓rangeD, ↓dRng, ↓dItems, ↓dCons, ↓dNil, ↓dBin, ↓dBinB, ↓dTup, ↓dLst, ↓dUn, ↓dIf, ↓dAndB, ↓dOrB, ↓dAndV, ↓dOrV, ↓dNotV, ↓D.tru, ↓dNotB, ↓dVal, ↓dIsi, ↓dIsiT, ↓dFld, ↓dCall, ↓dMake, ↓dEq, ↓dEqB, ↓dEqD, ↓dV, ↓dVR, ↓dC, ↓dTrue, ↓dTru, ↓tgTup, ↓tgsCons, ↓tgName, ↓tgsNil, ↓wipeE, ↓bSum, ↓bLen, ↓bAbs, ↓bTup, ↓bLst, ↓bAll, ↓bAny, ↓intsD, ↓boolsD, ↓D.add, ↓D.sub, ↓D.neg, ↓D.ix, ↓atI, ↓ixN, ↓D.mod, ↓D.kl, ↓Kl.sub, ↓Kl.subs, ↓Cn.fields, ↓cLt, ↓cLe, ↓cGe, ↓cGtA, ↓cIs, ↓cIsNot, ↓D.isNon, ↓D.items, ↓rng, ↓okR, ↓lim, ↓eq0, ↓dMeth, ↓dGet1, ↓keyD, ↓sFrz, ↓sOwn, ↓sApp, ↓dDrw0, ↓dDrw1, ↓sInc, ↓dLenS, ↓dIxS, ↓dNeS, ↓dPow, ↓bInt, ↓eqT, hr3]
    obtain ⟨s1, s2, s3, s4, s5, s6, s7, s8, s9⟩ := q.v.sm
    have hwB : w.natAbs < 1048576 := by omega
    have w0 : w ≠ 0 := by omega
    have na : (m.a - w).natAbs ≤ 2097152 := by omega
    have nb : m.b.natAbs ≤ 2097152 := by omega
    have nc : m.c.natAbs ≤ 2097152 := by omega
    have nd : m.d.natAbs ≤ 2097152 := by omega
    have ne : (m.e - w).natAbs ≤ 2097152 := by omega
    have nf : m.f.natAbs ≤ 2097152 := by omega
    have ng : m.g.natAbs ≤ 2097152 := by omega
    have nh : m.h.natAbs ≤ 2097152 := by omega
    have ni : (m.i - w).natAbs ≤ 2097152 := by omega
    obtain ⟨⟨g, hg, e1, e2⟩, v, l⟩ := id q
    have hw0 := v.p
    simp only [M9.sc, Rq, M9.mk.injEq] at e1
    simp only [Nq] at e2
    obtain ⟨r1, r2, r3, r4, r5, r6, r7, r8, r9⟩ := e1
    have gn : g ≠ 0 := by omega
    have su : ∀ {x X : Int}, g * x = X → g * (x - w) = X - (a * a + b * b + c * c + d * d) := fun h => by rw [Int.mul_sub, h, e2]
    have a1 := k_fin gn e2 r2 r6 r3 (su r5) (k1 a b c d)
    have a2 := k_fin gn e2 r3 r4 (su r1) r6 (k2 a b c d)
    have a3 := k_fin gn e2 (su r1) (su r5) r2 r4 (k3 a b c d)
    have b1 := k_fin gn e2 r2 (su r9) r3 r8 (k4 a b c d)
    have b2 := k_fin gn e2 r3 r7 (su r1) (su r9) (k5 a b c d)
    have b3 := k_fin gn e2 (su r1) r8 r2 r7 (k6 a b c d)
    have c1 := k_fin gn e2 (su r5) (su r9) r6 r8 (k7 a b c d)
    have c2 := k_fin gn e2 r6 r7 r4 (su r9) (k8 a b c d)
    have c3 := k_fin gn e2 r4 r8 (su r5) r7 (k9 a b c d)
    have mo : ∀ {x y : Int}, x.natAbs ≤ 2097152 → mulOk x y = true := fun h => mulOk_of (Nat.lt_of_le_of_lt h (by decide))
    have x12 := cross_spec (a := m.a - w) (b := m.b) (c := m.c) (x := m.d) (y := m.e - w) (z := m.f) (k := k) (mo nb) (mo nc) (mo nc) (mo na) (mo na) (mo nb)
    have x13 := cross_spec (a := m.a - w) (b := m.b) (c := m.c) (x := m.g) (y := m.h) (z := m.i - w) (k := k) (mo nb) (mo nc) (mo nc) (mo na) (mo na) (mo nb)
    have x23 := cross_spec (a := m.d) (b := m.e - w) (c := m.f) (x := m.g) (y := m.h) (z := m.i - w) (k := k) (mo ne) (mo nf) (mo nf) (mo nd) (mo nd) (mo ne)
    have bd : ∀ {p q r s : Int}, p.natAbs ≤ 2097152 → q.natAbs ≤ 2097152 → r.natAbs ≤ 2097152 → s.natAbs ≤ 2097152 → (p * q - r * s).natAbs < 2 ^ 64 := fun h1 h2 h3 h4 => Nat.lt_of_le_of_lt (bd_ms h1 h2 h3 h4) (by decide)
    have nz : ∀ {t x p : Int}, t ≠ 0 → x ≠ 0 → g * p = t * x → p ≠ 0 := fun ht hx e hp => by
      rw [hp, Int.mul_zero] at e
      exact Int.mul_ne_zero ht hx e.symm
    have zz : ∀ {t x p : Int}, t = 0 → g * p = t * x → p = 0 := fun ht e => by
      rw [ht, Int.zero_mul] at e
      rcases Int.mul_eq_zero.mp e with h | h
      · exact absurd h gn
      · exact h
    generalize hR : D.lst [v3 (m.a - w) m.b m.c, v3 m.d (m.e - w) m.f, v3 m.g m.h (m.i - w)] = R at hrow
    have f12 : (dCall 2 F_cross (dCons (dBin D.ix (dV 1) (dV 2)) (dCons (dBin D.ix (dV 1) (dV 3)) (dNil)))) [.val (tnD m w), .val R, .val (.int 0), .val (.int 1), .no, .no, .no, .no] k = _ := Eq.trans (by subst hR; simp [↓dCall, ↓dCons, ↓dNil, ↓dBin, ↓D.ix, ↓dV, ↓atI, ↓ixN, ↓M.bind, ↓M.pure, ↓M.lift]) x12
    have f13 : (dCall 2 F_cross (dCons (dBin D.ix (dV 1) (dV 2)) (dCons (dBin D.ix (dV 1) (dV 3)) (dNil)))) [.val (tnD m w), .val R, .val (.int 0), .val (.int 2), .no, .no, .no, .no] k = _ := Eq.trans (by subst hR; simp [↓dCall, ↓dCons, ↓dNil, ↓dBin, ↓D.ix, ↓dV, ↓atI, ↓ixN, ↓M.bind, ↓M.pure, ↓M.lift]) x13
    have f23 : (dCall 2 F_cross (dCons (dBin D.ix (dV 1) (dV 2)) (dCons (dBin D.ix (dV 1) (dV 3)) (dNil)))) [.val (tnD m w), .val R, .val (.int 1), .val (.int 2), .no, .no, .no, .no] k = _ := Eq.trans (by subst hR; simp [↓dCall, ↓dCons, ↓dNil, ↓dBin, ↓D.ix, ↓dV, ↓atI, ↓ixN, ↓M.bind, ↓M.pure, ↓M.lift]) x23
    have hit : dItems (dTup (dCons (dTup (dCons (dC (.int 0)) (dCons (dC (.int 1)) (dNil)))) (dCons (dTup (dCons (dC (.int 0)) (dCons (dC (.int 2)) (dNil)))) (dCons (dTup (dCons (dC (.int 1)) (dCons (dC (.int 2)) (dNil)))) (dNil))))) [.val (tnD m w), .val R, .no, .no, .no, .no, .no, .no] k = some ([.tup [.int 0, .int 1], .tup [.int 0, .int 2], .tup [.int 1, .int 2]], k) := rfl
    have stp : ∀ (x y : Int) (s2 s3 : Slot), (tgTup 2 (tgsCons (tgName 2) (tgsCons (tgName 3) (tgsNil)))).put (.tup [.int x, .int y]) [.val (tnD m w), .val R, s2, s3, .no, .no, .no, .no] = some [.val (tnD m w), .val R, .val (.int x), .val (.int y), .no, .no, .no, .no] := fun x y s2 s3 => rfl
    have done : ∀ o : D, (∃ x y z l, o = v3 x y z ∧ l ≠ 0 ∧ b = l * x ∧ c = l * y ∧ d = l * z ∧ g3 x y z = 1) → forLoop (tgTup 2 (tgsCons (tgName 2) (tgsCons (tgName 3) (tgsNil)))) (sSeq (sIf (dEqB eqT true (dCall 2 F_cross (dCons (dBin D.ix (dV 1) (dV 2)) (dCons (dBin D.ix (dV 1) (dV 3)) (dNil)))) (dTup (dCons (dC (.int 0)) (dCons (dC (.int 0)) (dCons (dC (.int 0)) (dNil)))))) (sSeq (sAsg (dCall 1 F_least (dCons (dCall 2 F_cross (dCons (dBin D.ix (dV 1) (dV 2)) (dCons (dBin D.ix (dV 1) (dV 3)) (dNil)))) (dNil))) (tgName 4)) (sSeq (sRet (dIf (dBinB cGtA (dV 4) (dTup (dCons (dC (.int 0)) (dCons (dC (.int 0)) (dCons (dC (.int 0)) (dNil)))))) (dV 4) (dCall 2 F_times (dCons (dUn D.neg (dC (.int 1))) (dCons (dV 4) (dNil)))))) (sNext))) (sNext)) (sNext)) [.tup [.int 0, .int 1], .tup [.int 0, .int 2], .tup [.int 1, .int 2]] [.val (tnD m w), .val R, .no, .no, .no, .no, .no, .no] k = some (.ret o, k) →
        ∃ x y z l, F_axis_of [tnD m w] k = some (v3 x y z, k) ∧ l ≠ 0 ∧ b = l * x ∧ c = l * y ∧ d = l * z ∧ g3 x y z = 1 := by
      rintro o ⟨x, y, z, l, rfl, h1, h2, h3, h4, h5⟩ hf
      refine ⟨x, y, z, l, ?_, h1, h2, h3, h4, h5⟩
      unfold F_axis_of runB S_axis_of
      rw [st, seq_nx hc, seq_nx hi, seq_nx hrow]
      simp only [sSeq, M.bind, sFor, hit]
      rw [hf]
      rfl
    by_cases d0 : d = 0
    · subst d0
      have z1 := zz (by simp) a1; have z2 := zz (by simp) a2; have z3 := zz (by simp) a3
      rw [z1, z2, z3] at f12
      have k12 := ax_skip (g := (sSeq (sAsg (dCall 1 F_least (dCons (dCall 2 F_cross (dCons (dBin D.ix (dV 1) (dV 2)) (dCons (dBin D.ix (dV 1) (dV 3)) (dNil)))) (dNil))) (tgName 4)) (sSeq (sRet (dIf (dBinB cGtA (dV 4) (dTup (dCons (dC (.int 0)) (dCons (dC (.int 0)) (dCons (dC (.int 0)) (dNil)))))) (dV 4) (dCall 2 F_times (dCons (dUn D.neg (dC (.int 1))) (dCons (dV 4) (dNil)))))) (sNext)))) f12
      by_cases c0 : c = 0
      · subst c0
        have y1 := zz (by simp) b1; have y2 := zz (by simp) b2; have y3 := zz (by simp) b3
        rw [y1, y2, y3] at f13
        have k13 := ax_skip (g := (sSeq (sAsg (dCall 1 F_least (dCons (dCall 2 F_cross (dCons (dBin D.ix (dV 1) (dV 2)) (dCons (dBin D.ix (dV 1) (dV 3)) (dNil)))) (dNil))) (tgName 4)) (sSeq (sRet (dIf (dBinB cGtA (dV 4) (dTup (dCons (dC (.int 0)) (dCons (dC (.int 0)) (dCons (dC (.int 0)) (dNil)))))) (dV 4) (dCall 2 F_times (dCons (dUn D.neg (dC (.int 1))) (dCons (dV 4) (dNil)))))) (sNext)))) f13
        have b0 : b ≠ 0 := fun h => z ⟨h, rfl, rfl⟩
        have t0 : 4 * b * w ≠ 0 := Int.mul_ne_zero (by omega) w0
        have hne : ¬ ((m.e - w) * (m.i - w) - m.f * m.h = 0 ∧ m.f * m.g - m.d * (m.i - w) = 0 ∧ m.d * m.h - (m.e - w) * m.g = 0) := fun h => nz t0 b0 c1 h.1
        obtain ⟨o, ax, he⟩ := ax_end hne (bd ne ni nf nh) (bd nf ng nd ni) (bd nd nh ne ng) f23
        refine done o (ax_of hg t0 hne c1 c2 c3 ax) ?_
        unfold forLoop; rw [stp]; simp only [M.bind]; rw [k12]; simp only
        unfold forLoop; rw [stp]; simp only [M.bind]; rw [k13]; simp only
        unfold forLoop; rw [stp]; simp only [M.bind]; rw [he]; rfl
      · have t0 : -4 * c * w ≠ 0 := Int.mul_ne_zero (by omega) w0
        have hne : ¬ (m.b * (m.i - w) - m.c * m.h = 0 ∧ m.c * m.g - (m.a - w) * (m.i - w) = 0 ∧ (m.a - w) * m.h - m.b * m.g = 0) := fun h => nz t0 c0 b2 h.2.1
        obtain ⟨o, ax, he⟩ := ax_end hne (bd nb ni nc nh) (bd nc ng na ni) (bd na nh nb ng) f13
        refine done o (ax_of hg t0 hne b1 b2 b3 ax) ?_
        unfold forLoop; rw [stp]; simp only [M.bind]; rw [k12]; simp only
        unfold forLoop; rw [stp]; simp only [M.bind]; rw [he]; rfl
    · have t0 : 4 * d * w ≠ 0 := Int.mul_ne_zero (by omega) w0
      have hne : ¬ (m.b * m.f - m.c * (m.e - w) = 0 ∧ m.c * m.d - (m.a - w) * m.f = 0 ∧ (m.a - w) * (m.e - w) - m.b * m.d = 0) := fun h => nz t0 d0 a3 h.2.2
      obtain ⟨o, ax, he⟩ := ax_end hne (bd nb nf nc ne) (bd nc nd na nf) (bd na ne nb nd) f12
      refine done o (ax_of hg t0 hne a1 a2 a3 ax) ?_
      unfold forLoop; rw [stp]; simp only [M.bind]; rw [he]; rfl
end Sky

end
section
namespace Sky
open PySem PySem.Spec PyProof.Rows L2
/-- below so many bits -/
def Bd (n : Nat) (x : Int) : Prop := x.natAbs < 2 ^ n
theorem Bd.mono {n m : Nat} {x : Int} (h : Bd n x) (hn : n ≤ m) : Bd m x := Nat.lt_of_lt_of_le h (Nat.pow_le_pow_right (by decide) hn)
theorem Bd.mul {n m : Nat} {x y : Int} (h : Bd n x) (h2 : Bd m y) : Bd (n + m) (x * y) := by
  unfold Bd at *
  rw [Int.natAbs_mul, Nat.pow_add]
  exact Nat.mul_lt_mul'' h h2
theorem Bd.add {n : Nat} {x y : Int} (h : Bd n x) (h2 : Bd n y) : Bd (n + 1) (x + y) := by
  unfold Bd at *
  rw [Nat.pow_succ]
  have := Int.natAbs_add_le x y
  omega
theorem Bd.neg {n : Nat} {x : Int} (h : Bd n x) : Bd n (-x) := by unfold Bd at *; rw [Int.natAbs_neg]; exact h
theorem Bd.sub {n : Nat} {x y : Int} (h : Bd n x) (h2 : Bd n y) : Bd (n + 1) (x - y) := by rw [Int.sub_eq_add_neg]; exact h.add h2.neg
theorem Bd.le {n : Nat} {x y : Int} (h : Bd n x) (h2 : y.natAbs ≤ x.natAbs) : Bd n y := Nat.lt_of_le_of_lt h2 h
theorem bd_of {n : Nat} {x : Int} (k : Nat) (h : x.natAbs ≤ k) (hk : k < 2 ^ n) : Bd n x := Nat.lt_of_le_of_lt h hk
theorem log_bd {n : Nat} {x : Int} (h : Bd n x) : x.natAbs.log2 ≤ n := by
  by_cases z : x.natAbs = 0
  · rw [z]; exact Nat.zero_le _
  · exact Nat.le_of_lt ((Nat.log2_lt z).2 h)
theorem mulOk_bd {n m : Nat} {x y : Int} (h : Bd n x) (h2 : Bd m y) (hn : n + m < 1000000) : mulOk x y = true := by
  unfold mulOk
  rw [Bool.or_eq_true_iff, Bool.or_eq_true_iff]
  have := log_bd h; have := log_bd h2
  exact .inr (.inr (Nat.ble_eq_true_of_le (by omega)))
theorem divOk_bd {n : Nat} {j : Int} (h : 0 < j) (h2 : Bd n j) (hn : n < 9000) : divOk j = true := by
  unfold divOk
  rw [Bool.and_eq_true_iff]
  have := log_bd h2
  exact ⟨decide_eq_true h, Nat.ble_eq_true_of_le (by omega)⟩
theorem mul_bd {n m : Nat} {x y : Int} (h : Bd n x) (h2 : Bd m y) (hn : n + m < 1000000) : D.mul (.int x) (.int y) = some (.int (x * y)) := mul_ok (mulOk_bd h h2 hn)
/-- three numbers -/
structure T3 (n : Nat) (a b c : Int) : Prop where
  a : Bd n a
  b : Bd n b
  c : Bd n c
theorem T3.mono {n m : Nat} {a b c : Int} (h : T3 n a b c) (hn : n ≤ m) : T3 m a b c := ⟨h.a.mono hn, h.b.mono hn, h.c.mono hn⟩
theorem T3.dot {n m : Nat} {a b c x y z : Int} (h : T3 n a b c) (g : T3 m x y z) : Bd (n + m + 2) (a * x + b * y + c * z) := ((h.a.mul g.a).add (h.b.mul g.b)).add ((h.c.mul g.c).mono (by omega))
theorem T3.cross {n m : Nat} {a b c x y z : Int} (h : T3 n a b c) (g : T3 m x y z) : T3 (n + m + 1) (b * z - c * y) (c * x - a * z) (a * y - b * x) := ⟨(h.b.mul g.c).sub (h.c.mul g.b), (h.c.mul g.a).sub (h.a.mul g.c), (h.a.mul g.b).sub (h.b.mul g.a)⟩
theorem T3.times {n m : Nat} {a b c t : Int} (h : T3 n a b c) (g : Bd m t) : T3 (m + n) (t * a) (t * b) (t * c) := ⟨g.mul h.a, g.mul h.b, g.mul h.c⟩
theorem dotB {n m : Nat} {a b c x y z : Int} {k : Nat} (h : T3 n a b c) (g : T3 m x y z) (hn : n + m < 1000000 := by decide) : F_dot [v3 a b c, v3 x y z] k = some (.int (a * x + b * y + c * z), k) :=
  dot_spec (mulOk_bd h.a g.a hn) (mulOk_bd h.b g.b hn) (mulOk_bd h.c g.c hn)
theorem crossB {n m : Nat} {a b c x y z : Int} {k : Nat} (h : T3 n a b c) (g : T3 m x y z) (hn : n + m < 1000000 := by decide) : F_cross [v3 a b c, v3 x y z] k = some (v3 (b * z - c * y) (c * x - a * z) (a * y - b * x), k) :=
  cross_spec (mulOk_bd h.b g.c hn) (mulOk_bd h.c g.b hn) (mulOk_bd h.c g.a hn) (mulOk_bd h.a g.c hn) (mulOk_bd h.a g.b hn) (mulOk_bd h.b g.a hn)
theorem lineB {n m : Nat} {a b c x y z : Int} {k : Nat} (h : T3 n a b c) (g : T3 m x y z) (hn : n + m < 1000000 := by decide) : F_is_on_line [v3 a b c, v3 x y z] k = some (.bl (decide (b * z - c * y = 0 ∧ c * x - a * z = 0 ∧ a * y - b * x = 0)), k) :=
  on_line_spec (mulOk_bd h.b g.c hn) (mulOk_bd h.c g.b hn) (mulOk_bd h.c g.a hn) (mulOk_bd h.a g.c hn) (mulOk_bd h.a g.b hn) (mulOk_bd h.b g.a hn)
theorem timesB {n m : Nat} {t x y z : Int} {k : Nat} (ht : Bd m t) (h : T3 n x y z) (hn : m + n < 1000000 := by decide) : F_times [.int t, v3 x y z] k = some (v3 (t * x) (t * y) (t * z), k) := by
  simp [↓runB, ↓runI, ↓startE, ↓startI, ↓sSeq, ↓sRet, ↓sRetN, ↓sIf, ↓sAsg, ↓sDrop, ↓sFail, ↓sNext, ↓sPar2, ↓sPar3, ↓sFor, ↓forLoop, ↓sMe, ↓M.bind, ↓M.pure, ↓M.lift, ↓M.fail, ↓dBi, ↓dLc, ↓lcLoop, ↓dZip, ↓zipD, ↓pairD, ↓dEnumA, ↓enumD, ↓rangeD, ↓dRng, ↓dItems, ↓dCons, ↓dNil, ↓dBin, ↓dBinB, ↓dTup, ↓dLst, ↓dUn, ↓dIf, ↓dAndB, ↓dOrB, ↓dAndV, ↓dOrV, ↓dNotV, ↓D.tru, ↓dNotB, ↓dVal, ↓dIsi, ↓dIsiT, ↓dFld, ↓dCall, ↓dMake, ↓dEq, ↓dEqB, ↓dEqD, ↓dV, ↓dVR, ↓dC, ↓dTrue, ↓dTru, ↓tgTup, ↓tgsCons, ↓tgName, ↓tgsNil, ↓wipeE, ↓bSum, ↓bLen, ↓bAbs, ↓bTup, ↓bLst, ↓bAll, ↓bAny, ↓intsD, ↓boolsD, ↓D.add, ↓D.sub, ↓D.neg, ↓D.ix, ↓atI, ↓ixN, ↓D.mod, ↓D.kl, ↓Kl.sub, ↓Kl.subs, ↓Cn.fields, ↓cLt, ↓cLe, ↓cGe, ↓cGtA, ↓cIs, ↓cIsNot, ↓D.isNon, ↓D.items, ↓rng, ↓okR, ↓lim, ↓eq0, ↓dMeth, ↓dGet1, ↓keyD, ↓sFrz, ↓sOwn, ↓sApp, ↓dDrw0, ↓dDrw1, ↓sInc, ↓dLenS, ↓dIxS, ↓dNeS, ↓dPow, ↓bInt, ↓eqT, F_times, S_times, mul_bd ht h.a hn, mul_bd ht h.b hn, mul_bd ht h.c hn]
theorem detB {n m l : Nat} {a b c x y z p q r : Int} {k : Nat} (h : T3 n a b c) (g : T3 m x y z) (f : T3 l p q r) (hn : n + m < 1000000 := by decide) (hn2 : n + m + 1 + l < 1000000 := by decide) :
    F_det [v3 a b c, v3 x y z, v3 p q r] k = some (.int ((b * z - c * y) * p + (c * x - a * z) * q + (a * y - b * x) * r), k) := by
  simp [↓runB, ↓runI, ↓startE, ↓startI, ↓sSeq, ↓sRet, ↓sRetN, ↓sIf, ↓sAsg, ↓sDrop, ↓sFail, ↓sNext, ↓sPar2, ↓sPar3, ↓sFor, ↓forLoop, ↓sMe, ↓M.bind, ↓M.pure, ↓M.lift, ↓M.fail, ↓dBi, ↓dLc, ↓lcLoop, ↓dZip, ↓zipD, ↓pairD, ↓dEnumA, ↓enumD, ↓rangeD, ↓dRng, ↓dItems, ↓dCons, ↓dNil, ↓dBin, ↓dBinB, ↓dTup, ↓dLst, ↓dUn, ↓dIf, ↓dAndB, ↓dOrB, ↓dAndV, ↓dOrV, ↓dNotV, ↓D.tru, ↓dNotB, ↓dVal, ↓dIsi, ↓dIsiT, ↓dFld, ↓dCall, ↓dMake, ↓dEq, ↓dEqB, ↓dEqD, ↓dV, ↓dVR, ↓dC, ↓dTrue, ↓dTru, ↓tgTup, ↓tgsCons, ↓tgName, ↓tgsNil, ↓wipeE, ↓bSum, ↓bLen, ↓bAbs, ↓bTup, ↓bLst, ↓bAll, ↓bAny, ↓intsD, ↓boolsD, ↓D.add, ↓D.sub, ↓D.neg, ↓D.ix, ↓atI, ↓ixN, ↓D.mod, ↓D.kl, ↓Kl.sub, ↓Kl.subs, ↓Cn.fields, ↓cLt, ↓cLe, ↓cGe, ↓cGtA, ↓cIs, ↓cIsNot, ↓D.isNon, ↓D.items, ↓rng, ↓okR, ↓lim, ↓eq0, ↓dMeth, ↓dGet1, ↓keyD, ↓sFrz, ↓sOwn, ↓sApp, ↓dDrw0, ↓dDrw1, ↓sInc, ↓dLenS, ↓dIxS, ↓dNeS, ↓dPow, ↓bInt, ↓eqT, F_det, S_det, crossB (k := k) h g hn, dotB (k := k) (h.cross g) f hn2]
theorem g3_le {a b c : Int} (h : ¬ (a = 0 ∧ b = 0 ∧ c = 0)) {n : Nat} (t : T3 n a b c) : Bd n (g3 a b c) := by
  obtain ⟨d1, d2, d3⟩ := g3_dvd a b c
  have le : ∀ x : Int, g3 a b c ∣ x → x ≠ 0 → (g3 a b c).natAbs ≤ x.natAbs := fun x hd hx => Nat.le_of_dvd (by omega) (Int.natAbs_dvd_natAbs.mpr hd)
  by_cases z : a = 0
  · by_cases z2 : b = 0
    · exact t.c.le (le c d3 (fun z3 => h ⟨z, z2, z3⟩))
    · exact t.b.le (le b d2 z2)
  · exact t.a.le (le a d1 z)
/-- the least triple -/
theorem leastB {n : Nat} {a b c : Int} {k : Nat} (h : ¬ (a = 0 ∧ b = 0 ∧ c = 0)) (t : T3 n a b c) (hn : n < 9000 := by decide) : F_least [v3 a b c] k = some (v3 (a / g3 a b c) (b / g3 a b c) (c / g3 a b c), k) :=
  least_spec h (divOk_bd (g3_pos h) (g3_le h t) hn)
theorem oppB {n : Nat} {a b c : Int} {k : Nat} (h : ¬ (a = 0 ∧ b = 0 ∧ c = 0)) (t : T3 n a b c) (hn : n < 9000 := by decide) : F_opposite [v3 a b c] k = some (v3 (-(a / g3 a b c)) (-(b / g3 a b c)) (-(c / g3 a b c)), k) :=
  opposite_spec h (divOk_bd (g3_pos h) (g3_le h t) hn)
/-- what least tells: p = g * a and the like -/
theorem g3_get {a b c : Int} (h : ¬ (a = 0 ∧ b = 0 ∧ c = 0)) : ∃ g x y z, 0 < g ∧ g = g3 a b c ∧ a = g * x ∧ b = g * y ∧ c = g * z ∧ a / g3 a b c = x ∧ b / g3 a b c = y ∧ c / g3 a b c = z ∧ g3 x y z = 1 := by
  obtain ⟨d1, d2, d3⟩ := g3_dvd a b c
  exact ⟨g3 a b c, _, _, _, g3_pos h, rfl, (Int.mul_ediv_cancel' d1).symm, (Int.mul_ediv_cancel' d2).symm, (Int.mul_ediv_cancel' d3).symm, rfl, rfl, rfl, g3_div h⟩
theorem T3.of_mul {n : Nat} {g x y z : Int} (hg : 0 < g) (t : T3 n (g * x) (g * y) (g * z)) : T3 n x y z := by
  have le : ∀ u : Int, u.natAbs ≤ (g * u).natAbs := fun u => by
    rw [Int.natAbs_mul]
    exact Nat.le_mul_of_pos_left _ (by omega)
  exact ⟨t.a.le (le x), t.b.le (le y), t.c.le (le z)⟩
end Sky

end
section
namespace Sky
open PySem PySem.Spec PyProof.Rows L2
/-- a turn's numbers, by its number below -/
theorem Va.bd {m : M9} {w : Int} {n : Nat} (v : Va m w) (h : Bd n w) : T3 n m.a m.b m.c ∧ T3 n m.d m.e m.f ∧ T3 n m.g m.h m.i := by
  obtain ⟨h1, h2, h3, h4, h5, h6, h7, h8, h9⟩ := v.sm
  exact ⟨⟨h.le h1, h.le h2, h.le h3⟩, ⟨h.le h4, h.le h5, h.le h6⟩, ⟨h.le h7, h.le h8, h.le h9⟩⟩
set_option maxHeartbeats 4000000 in
theorem initB {m : M9} {w : Int} {n : Nat} {k : Nat} (o : m.Orth w) (r1 : T3 n m.a m.b m.c) (r2 : T3 n m.d m.e m.f) (r3 : T3 n m.g m.h m.i) (hw : 0 < w) (hs : Bd n w) (hn : n < 9000) (hd : divOk (m.gc w) = true) : FI_Turn [.lst m.rows, .int w] k = some (TNf m w, k) := by
  have hn2 : n + n < 1000000 := by omega
  have d11 : F_dot [v3 m.a m.b m.c, v3 m.a m.b m.c] k = some (.int (w * w), k) := by rw [dotB r1 r1 hn2, o.aa]
  have d22 : F_dot [v3 m.d m.e m.f, v3 m.d m.e m.f] k = some (.int (w * w), k) := by rw [dotB r2 r2 hn2, o.bb]
  have d33 : F_dot [v3 m.g m.h m.i, v3 m.g m.h m.i] k = some (.int (w * w), k) := by rw [dotB r3 r3 hn2, o.cc]
  have d12 : F_dot [v3 m.a m.b m.c, v3 m.d m.e m.f] k = some (.int 0, k) := by rw [dotB r1 r2 hn2, o.ab]
  have d13 : F_dot [v3 m.a m.b m.c, v3 m.g m.h m.i] k = some (.int 0, k) := by rw [dotB r1 r3 hn2, o.ac]
  have d23 : F_dot [v3 m.d m.e m.f, v3 m.g m.h m.i] k = some (.int 0, k) := by rw [dotB r2 r3 hn2, o.bc]
  have d21 : F_dot [v3 m.d m.e m.f, v3 m.a m.b m.c] k = some (.int 0, k) := by rw [dotB r2 r1 hn2, ← o.ab]; simp [Int.mul_comm]
  have d31 : F_dot [v3 m.g m.h m.i, v3 m.a m.b m.c] k = some (.int 0, k) := by rw [dotB r3 r1 hn2, ← o.ac]; simp [Int.mul_comm]
  have d32 : F_dot [v3 m.g m.h m.i, v3 m.d m.e m.f] k = some (.int 0, k) := by rw [dotB r3 r2 hn2, ← o.bc]; simp [Int.mul_comm]
  have hw1 : ¬ w < 1 := by omega
  have hr : (List.range 3) = [0, 1, 2] := rfl
  unfold M9.gc at hd
  simp [↓runB, ↓runI, ↓startE, ↓startI, ↓sSeq, ↓sRet, ↓sRetN, ↓sIf, ↓sAsg, ↓sDrop, ↓sFail, ↓sNext, ↓sPar2, ↓sPar3, ↓sFor, ↓forLoop, ↓sMe, ↓M.bind, ↓M.pure, ↓M.lift, ↓M.fail, ↓dBi, ↓dLc, ↓lcLoop, ↓dZip, ↓zipD, ↓pairD, ↓dEnumA, ↓enumD, ↓rangeD, ↓dRng, ↓dItems, ↓dCons, ↓dNil, ↓dBin, ↓dBinB, ↓dTup, ↓dLst, ↓dUn, ↓dIf, ↓dAndB, ↓dOrB, ↓dAndV, ↓dOrV, ↓dNotV, ↓D.tru, ↓dNotB, ↓dVal, ↓dIsi, ↓dIsiT, ↓dFld, ↓dCall, ↓dMake, ↓dEq, ↓dEqB, ↓dEqD, ↓dV, ↓dVR, ↓dC, ↓dTrue, ↓dTru, ↓tgTup, ↓tgsCons, ↓tgName, ↓tgsNil, ↓wipeE, ↓bSum, ↓bLen, ↓bAbs, ↓bTup, ↓bLst, ↓bAll, ↓bAny, ↓intsD, ↓boolsD, ↓D.add, ↓D.sub, ↓D.neg, ↓D.ix, ↓atI, ↓ixN, ↓D.mod, ↓D.kl, ↓Kl.sub, ↓Kl.subs, ↓Cn.fields, ↓cLt, ↓cLe, ↓cGe, ↓cGtA, ↓cIs, ↓cIsNot, ↓D.isNon, ↓D.items, ↓rng, ↓okR, ↓lim, ↓eq0, ↓dMeth, ↓dGet1, ↓keyD, ↓sFrz, ↓sOwn, ↓sApp, ↓dDrw0, ↓dDrw1, ↓sInc, ↓dLenS, ↓dIxS, ↓dNeS, ↓dPow, ↓bInt, ↓eqT, FI_Turn, S_Turn___init__, hr, d11, d22, d33, d12, d13, d23, d21, d31, d32, hw1, mul_ok (mulOk_bd hs hs hn2), common_spec, fdiv_ok hd, M9.dv, M9.gc, TNf]
theorem mkB {m : M9} {w : Int} {n : Nat} {k : Nat} (v : Va m w) (h : Bd n w) (hn : n < 9000 := by decide) : FI_Turn [.lst m.rows, .int w] k = some (TNf m w, k) := by
  obtain ⟨r1, r2, r3⟩ := v.bd h
  exact initB v.o r1 r2 r3 v.p h hn (divOk_bd (dv_of v.p).2.2.1 (h.le (gc_le v.p)) hn)
theorem backB0 {m : M9} {w : Int} {n : Nat} {k : Nat} (v : Va m w) (h : Bd n w) (hn : n < 9000) : F_back [tnD m w] k = some (TN m.tr w, k) := by
  have h2 := mkB (k := k) v.tr h hn
  have hr : (List.range 3) = [0, 1, 2] := rfl
  simp only [M9.rows] at h2
  unfold M9.tr at h2
  simp [↓runB, ↓runI, ↓startE, ↓startI, ↓sSeq, ↓sRet, ↓sRetN, ↓sIf, ↓sAsg, ↓sDrop, ↓sFail, ↓sNext, ↓sPar2, ↓sPar3, ↓sFor, ↓forLoop, ↓sMe, ↓M.bind, ↓M.pure, ↓M.lift, ↓M.fail, ↓dBi, ↓dLc, ↓lcLoop, ↓dZip, ↓zipD, ↓pairD, ↓dEnumA, ↓enumD, ↓rangeD, ↓dRng, ↓dItems, ↓dCons, ↓dNil, ↓dBin, ↓dBinB, ↓dTup, ↓dLst, ↓dUn, ↓dIf, ↓dAndB, ↓dOrB, ↓dAndV, ↓dOrV, ↓dNotV, ↓D.tru, ↓dNotB, ↓dVal, ↓dIsi, ↓dIsiT, ↓dFld, ↓dCall, ↓dMake, ↓dEq, ↓dEqB, ↓dEqD, ↓dV, ↓dVR, ↓dC, ↓dTrue, ↓dTru, ↓tgTup, ↓tgsCons, ↓tgName, ↓tgsNil, ↓wipeE, ↓bSum, ↓bLen, ↓bAbs, ↓bTup, ↓bLst, ↓bAll, ↓bAny, ↓intsD, ↓boolsD, ↓D.add, ↓D.sub, ↓D.neg, ↓D.ix, ↓atI, ↓ixN, ↓D.mod, ↓D.kl, ↓Kl.sub, ↓Kl.subs, ↓Cn.fields, ↓cLt, ↓cLe, ↓cGe, ↓cGtA, ↓cIs, ↓cIsNot, ↓D.isNon, ↓D.items, ↓rng, ↓okR, ↓lim, ↓eq0, ↓dMeth, ↓dGet1, ↓keyD, ↓sFrz, ↓sOwn, ↓sApp, ↓dDrw0, ↓dDrw1, ↓sInc, ↓dLenS, ↓dIxS, ↓dNeS, ↓dPow, ↓bInt, ↓eqT, F_back, S_back, check_turn_spec, hr, h2, TN, M9.tr]
theorem thenB0 {m m' : M9} {w u : Int} {n n' : Nat} {k : Nat} (v : Va m w) (v' : Va m' u) (lo : Low m w) (h : Bd n w) (h' : Bd n' u) (hn : n' + n < 9000) : F_then [tnD m w, tnD m' u] k = some (TN (m'.mul m) (u * w), k) := by
  have h2 := mkB (k := k) (v'.mul v) (h'.mul h) hn
  have hb := backB0 (k := k) v h (by omega)
  rw [lo.tr.TN] at hb
  obtain ⟨r1, r2, r3⟩ := v.tr.bd h
  obtain ⟨s1, s2, s3⟩ := v'.bd h'
  have e : w * u = u * w := Int.mul_comm _ _
  have hn2 : n' + n < 1000000 := by omega
  simp only [M9.tr] at r1 r2 r3
  simp only [M9.rows] at h2
  unfold M9.mul at h2
  unfold M9.tr at hb
  have hn3 : n + n' < 1000000 := by omega
  simp [↓runB, ↓runI, ↓startE, ↓startI, ↓sSeq, ↓sRet, ↓sRetN, ↓sIf, ↓sAsg, ↓sDrop, ↓sFail, ↓sNext, ↓sPar2, ↓sPar3, ↓sFor, ↓forLoop, ↓sMe, ↓M.bind, ↓M.pure, ↓M.lift, ↓M.fail, ↓dBi, ↓dLc, ↓lcLoop, ↓dZip, ↓zipD, ↓pairD, ↓dEnumA, ↓enumD, ↓rangeD, ↓dRng, ↓dItems, ↓dCons, ↓dNil, ↓dBin, ↓dBinB, ↓dTup, ↓dLst, ↓dUn, ↓dIf, ↓dAndB, ↓dOrB, ↓dAndV, ↓dOrV, ↓dNotV, ↓D.tru, ↓dNotB, ↓dVal, ↓dIsi, ↓dIsiT, ↓dFld, ↓dCall, ↓dMake, ↓dEq, ↓dEqB, ↓dEqD, ↓dV, ↓dVR, ↓dC, ↓dTrue, ↓dTru, ↓tgTup, ↓tgsCons, ↓tgName, ↓tgsNil, ↓wipeE, ↓bSum, ↓bLen, ↓bAbs, ↓bTup, ↓bLst, ↓bAll, ↓bAny, ↓intsD, ↓boolsD, ↓D.add, ↓D.sub, ↓D.neg, ↓D.ix, ↓atI, ↓ixN, ↓D.mod, ↓D.kl, ↓Kl.sub, ↓Kl.subs, ↓Cn.fields, ↓cLt, ↓cLe, ↓cGe, ↓cGtA, ↓cIs, ↓cIsNot, ↓D.isNon, ↓D.items, ↓rng, ↓okR, ↓lim, ↓eq0, ↓dMeth, ↓dGet1, ↓keyD, ↓sFrz, ↓sOwn, ↓sApp, ↓dDrw0, ↓dDrw1, ↓sInc, ↓dLenS, ↓dIxS, ↓dNeS, ↓dPow, ↓bInt, ↓eqT, F_then, S_then, check_turn_spec, hb, dotB s1 r1 hn2, dotB s1 r2 hn2, dotB s1 r3 hn2, dotB s2 r1 hn2, dotB s2 r2 hn2, dotB s2 r3 hn2, dotB s3 r1 hn2, dotB s3 r2 hn2, dotB s3 r3 hn2, mul_ok (mulOk_bd h h' hn3), e, h2, TN, M9.mul]
theorem mirrB0 {m : M9} {w : Int} {n : Nat} {k : Nat} (v : Va m w) (h : Bd n w) (hn : n < 9000) : F_Turn_is_mirrored [tnD m w] k = some (.bl (decide (dt m < 0)), k) := by
  obtain ⟨r1, r2, r3⟩ := v.bd h
  have e : F_det [v3 m.a m.b m.c, v3 m.d m.e m.f, v3 m.g m.h m.i] k = some (.int (dt m), k) := detB (k := k) r1 r2 r3 (by omega) (by omega)
  simp [↓runB, ↓runI, ↓startE, ↓startI, ↓sSeq, ↓sRet, ↓sRetN, ↓sIf, ↓sAsg, ↓sDrop, ↓sFail, ↓sNext, ↓sPar2, ↓sPar3, ↓sFor, ↓forLoop, ↓sMe, ↓M.bind, ↓M.pure, ↓M.lift, ↓M.fail, ↓dBi, ↓dLc, ↓lcLoop, ↓dZip, ↓zipD, ↓pairD, ↓dEnumA, ↓enumD, ↓rangeD, ↓dRng, ↓dItems, ↓dCons, ↓dNil, ↓dBin, ↓dBinB, ↓dTup, ↓dLst, ↓dUn, ↓dIf, ↓dAndB, ↓dOrB, ↓dAndV, ↓dOrV, ↓dNotV, ↓D.tru, ↓dNotB, ↓dVal, ↓dIsi, ↓dIsiT, ↓dFld, ↓dCall, ↓dMake, ↓dEq, ↓dEqB, ↓dEqD, ↓dV, ↓dVR, ↓dC, ↓dTrue, ↓dTru, ↓tgTup, ↓tgsCons, ↓tgName, ↓tgsNil, ↓wipeE, ↓bSum, ↓bLen, ↓bAbs, ↓bTup, ↓bLst, ↓bAll, ↓bAny, ↓intsD, ↓boolsD, ↓D.add, ↓D.sub, ↓D.neg, ↓D.ix, ↓atI, ↓ixN, ↓D.mod, ↓D.kl, ↓Kl.sub, ↓Kl.subs, ↓Cn.fields, ↓cLt, ↓cLe, ↓cGe, ↓cGtA, ↓cIs, ↓cIsNot, ↓D.isNon, ↓D.items, ↓rng, ↓okR, ↓lim, ↓eq0, ↓dMeth, ↓dGet1, ↓keyD, ↓sFrz, ↓sOwn, ↓sApp, ↓dDrw0, ↓dDrw1, ↓sInc, ↓dLenS, ↓dIxS, ↓dNeS, ↓dPow, ↓bInt, ↓eqT, F_Turn_is_mirrored, S_Turn_is_mirrored, e]
theorem applyB0 {m : M9} {w x y z : Int} {n n' : Nat} {k : Nat} (v : Va m w) (h : Bd n w) (hx : ¬ (x = 0 ∧ y = 0 ∧ z = 0)) (t : T3 n' x y z) (hn : n + n' + 2 < 9000) :
    F_apply [tnD m w, v3 x y z] k = F_least [v3 (m.a * x + m.b * y + m.c * z) (m.d * x + m.e * y + m.f * z) (m.g * x + m.h * y + m.i * z)] k := by
  obtain ⟨r1, r2, r3⟩ := v.bd h
  have l := leastB (k := k) (ap_ne v hx) ⟨r1.dot t, r2.dot t, r3.dot t⟩ hn
  have hn2 : n + n' < 1000000 := by omega
  rw [l]
  simp [↓runB, ↓runI, ↓startE, ↓startI, ↓sSeq, ↓sRet, ↓sRetN, ↓sIf, ↓sAsg, ↓sDrop, ↓sFail, ↓sNext, ↓sPar2, ↓sPar3, ↓sFor, ↓forLoop, ↓sMe, ↓M.bind, ↓M.pure, ↓M.lift, ↓M.fail, ↓dBi, ↓dLc, ↓lcLoop, ↓dZip, ↓zipD, ↓pairD, ↓dEnumA, ↓enumD, ↓rangeD, ↓dRng, ↓dItems, ↓dCons, ↓dNil, ↓dBin, ↓dBinB, ↓dTup, ↓dLst, ↓dUn, ↓dIf, ↓dAndB, ↓dOrB, ↓dAndV, ↓dOrV, ↓dNotV, ↓D.tru, ↓dNotB, ↓dVal, ↓dIsi, ↓dIsiT, ↓dFld, ↓dCall, ↓dMake, ↓dEq, ↓dEqB, ↓dEqD, ↓dV, ↓dVR, ↓dC, ↓dTrue, ↓dTru, ↓tgTup, ↓tgsCons, ↓tgName, ↓tgsNil, ↓wipeE, ↓bSum, ↓bLen, ↓bAbs, ↓bTup, ↓bLst, ↓bAll, ↓bAny, ↓intsD, ↓boolsD, ↓D.add, ↓D.sub, ↓D.neg, ↓D.ix, ↓atI, ↓ixN, ↓D.mod, ↓D.kl, ↓Kl.sub, ↓Kl.subs, ↓Cn.fields, ↓cLt, ↓cLe, ↓cGe, ↓cGtA, ↓cIs, ↓cIsNot, ↓D.isNon, ↓D.items, ↓rng, ↓okR, ↓lim, ↓eq0, ↓dMeth, ↓dGet1, ↓keyD, ↓sFrz, ↓sOwn, ↓sApp, ↓dDrw0, ↓dDrw1, ↓sInc, ↓dLenS, ↓dIxS, ↓dNeS, ↓dPow, ↓bInt, ↓eqT, F_apply, S_apply, check_turn_spec, check_triple_spec hx, dotB r1 t hn2, dotB r2 t hn2, dotB r3 t hn2, l]

-- ### turns told by a matrix over a number 
/-- a number below after lowest terms is no greater -/
theorem TN_got {m : M9} {w : Int} (v : Va m w) {n : Nat} (h : Bd n w) : ∃ m' u g, TN m w = tnD m' u ∧ 0 < g ∧ m'.sc g = m ∧ g * u = w ∧ Va m' u ∧ Low m' u ∧ Bd n u := by
  obtain ⟨m', u, g, e, hg, hm, hu, hv, hl⟩ := TN_get v
  refine ⟨m', u, g, e, hg, hm, hu, hv, hl, h.le ?_⟩
  rw [← hu, Int.natAbs_mul]
  exact Nat.le_mul_of_pos_left _ (by omega)
theorem tr_sc (m : M9) (g : Int) : (m.sc g).tr = m.tr.sc g := rfl
theorem mul_scA (n m : M9) (p q : Int) : (n.sc p).mul (m.sc q) = (n.mul m).sc (p * q) := by
  simp only [M9.mul, M9.sc, M9.mk.injEq]; grind
theorem backB {m : M9} {w : Int} {n : Nat} {k : Nat} (v : Va m w) (h : Bd n w) (hn : n < 9000 := by decide) : F_back [TN m w] k = some (TN m.tr w, k) := by
  obtain ⟨m', u, g, e, hg, hm, hu, hv, hl, hb⟩ := TN_got v h
  rw [e, backB0 hv hb hn, ← hm, ← hu, tr_sc, TN_sc hg]
theorem thenB {m m2 : M9} {w w2 : Int} {n n2 : Nat} {k : Nat} (v : Va m w) (v2 : Va m2 w2) (h : Bd n w) (h2 : Bd n2 w2) (hn : n2 + n < 9000 := by decide) : F_then [TN m w, TN m2 w2] k = some (TN (m2.mul m) (w2 * w), k) := by
  obtain ⟨m', u, g, e, hg, hm, hu, hv, hl, hb⟩ := TN_got v h
  obtain ⟨m2', u2, g2, e2, hg2, hm2, hu2, hv2, hl2, hb2⟩ := TN_got v2 h2
  rw [e, e2, thenB0 hv hv2 hl hb hb2 hn, ← hm, ← hu, ← hm2, ← hu2, mul_scA, show g2 * u2 * (g * u) = g2 * g * (u2 * u) by grind, TN_sc (Int.mul_pos hg2 hg)]
theorem mirrB {m : M9} {w : Int} {n : Nat} {k : Nat} {f : Sem} {ρ : Env} {k0 : Nat} (hf : f ρ k0 = some (TN m w, k)) (v : Va m w) (h : Bd n w) (hn : n < 9000 := by decide) : dMeth mt_is_mirrored "is_mirrored" f dNil ρ k0 = some (.bl (decide (dt m < 0)), k) := by
  obtain ⟨m', u, g, e, hg, hm, hu, hv, hl, hb⟩ := TN_got v h
  rw [e] at hf
  simp only [dMeth, M.bind, hf, mt_is_mirrored, dNil]
  have : decide (dt m < 0) = decide (dt m' < 0) := by rw [← hm]; exact decide_eq_decide.mpr (dt_sc_pos hg).2
  rw [this]
  exact mirrB0 hv hb hn
/-- the direction to which a turn takes one -/
theorem applyB {m : M9} {w x y z : Int} {n n' : Nat} {k : Nat} (v : Va m w) (h : Bd n w) (hx : ¬ (x = 0 ∧ y = 0 ∧ z = 0)) (t : T3 n' x y z) (hn : n + n' + 2 < 9000 := by decide) :
    ∃ p q r g, F_apply [TN m w, v3 x y z] k = some (v3 p q r, k) ∧ 0 < g ∧ m.a * x + m.b * y + m.c * z = g * p ∧ m.d * x + m.e * y + m.f * z = g * q ∧ m.g * x + m.h * y + m.i * z = g * r ∧ g3 p q r = 1 ∧ T3 (n + n' + 2) p q r ∧ ¬ (p = 0 ∧ q = 0 ∧ r = 0) := by
  obtain ⟨m', u, g, e, hg, hm, hu, hv, hl, hb⟩ := TN_got v h
  obtain ⟨r1, r2, r3⟩ := hv.bd hb
  have nz := ap_ne hv hx
  have tt : T3 (n + n' + 2) _ _ _ := ⟨r1.dot t, r2.dot t, r3.dot t⟩
  obtain ⟨g', p, q, r, hg', eg, e1, e2, e3, e4, e5, e6, e7⟩ := g3_get nz
  have ea : F_apply [TN m w, v3 x y z] k = some (v3 p q r, k) := by
    rw [e, applyB0 hv hb hx t hn, leastB nz tt hn, e4, e5, e6]
  have t4 : T3 (n + n' + 2) p q r := T3.of_mul hg' (by rw [← e1, ← e2, ← e3]; exact tt)
  refine ⟨p, q, r, g * g', ea, Int.mul_pos hg hg', ?_, ?_, ?_, e7, t4, ?_⟩
  · rw [← hm, Int.mul_assoc, ← e1]; simp only [M9.sc]; grind
  · rw [← hm, Int.mul_assoc, ← e2]; simp only [M9.sc]; grind
  · rw [← hm, Int.mul_assoc, ← e3]; simp only [M9.sc]; grind
  · rintro ⟨z1, z2, z3⟩
    exact nz ⟨by rw [e1, z1, Int.mul_zero], by rw [e2, z2, Int.mul_zero], by rw [e3, z3, Int.mul_zero]⟩
/-- two turns are one -/
theorem TN_inj {m m2 : M9} {w w2 : Int} (v : Va m w) (v2 : Va m2 w2) : TN m w = TN m2 w2 ↔ m.sc w2 = m2.sc w := by
  obtain ⟨m', u, g, e, hg, hm, hu, hv, hl⟩ := TN_get v
  obtain ⟨m2', u2, g2, e2, hg2, hm2, hu2, hv2, hl2⟩ := TN_get v2
  constructor
  · intro h
    rw [e, e2] at h
    simp only [D.ins.injEq, List.cons.injEq, D.tup.injEq, D.int.injEq, true_and, and_true] at h
    have em : m' = m2' := by cases m'; cases m2'; simp only at h; simp only [M9.mk.injEq]; exact ⟨h.1.1.1, h.1.1.2.1, h.1.1.2.2, h.1.2.1.1, h.1.2.1.2.1, h.1.2.1.2.2, h.1.2.2.1, h.1.2.2.2.1, h.1.2.2.2.2⟩
    have eu : u = u2 := h.2
    subst em eu
    rw [← hm, ← hm2, ← hu, ← hu2]
    simp only [M9.sc, M9.mk.injEq]; grind
  · intro h
    exact TN_eq v2.p v.p h (Int.mul_comm _ _)
theorem tnD_inj {m n : M9} {w u : Int} (h : tnD m w = tnD n u) : m = n ∧ w = u := by
  simp only [D.ins.injEq, List.cons.injEq, D.tup.injEq, D.int.injEq, true_and, and_true] at h
  refine ⟨?_, h.2⟩
  cases m; cases n; simp only at h; simp only [M9.mk.injEq]; exact ⟨h.1.1.1, h.1.1.2.1, h.1.1.2.2, h.1.2.1.1, h.1.2.1.2.1, h.1.2.1.2.2, h.1.2.2.1, h.1.2.2.2.1, h.1.2.2.2.2⟩
theorem eqB {m m2 : M9} {w w2 : Int} {k : Nat} (v : Va m w) (v2 : Va m2 w2) : F_Turn___eq__ [TN m w, TN m2 w2] k = some (.bl (decide (m.sc w2 = m2.sc w)), k) := by
  obtain ⟨m', u, g, e, _⟩ := TN_get v
  obtain ⟨m2', u2, g2, e2, _⟩ := TN_get v2
  rw [e, e2, turn_eq_spec]
  congr 3
  rw [decide_eq_decide, ← TN_inj v v2, e, e2]
  exact ⟨fun h => by rw [h.1, h.2], tnD_inj⟩
end Sky

end
section
namespace Sky
open PySem PySem.Spec PyProof.Rows L2
-- ### the whole root 
def IsRt (N s : Int) : Prop := 0 ≤ s ∧ N ≤ s * s ∧ ∀ t, 0 ≤ t → t < s → t * t < N
theorem rt_ex {N : Int} : ∀ b : Nat, N ≤ (b : Int) * b → ∃ s, IsRt N s ∧ s ≤ b := by
  intro b
  induction b with
  | zero => intro h; exact ⟨0, ⟨Int.le_refl _, by simpa using h, fun t h1 h2 => by omega⟩, Int.le_refl _⟩
  | succ b ih =>
    intro h
    by_cases c : N ≤ (b : Int) * b
    · obtain ⟨s, h1, h2⟩ := ih c
      exact ⟨s, h1, by omega⟩
    · refine ⟨((b + 1 : Nat) : Int), ⟨by omega, h, fun t h1 h2 => ?_⟩, Int.le_refl _⟩
      have : t * t ≤ (b : Int) * b := Int.mul_le_mul (by omega) (by omega) h1 (by omega)
      omega
theorem sq_mono {x y : Int} (hx : 0 ≤ x) (h : x ≤ y) : x * x ≤ y * y := Int.mul_le_mul h h hx (by omega)
theorem sq_lt {x y : Int} (hx : 0 ≤ x) (h : x < y) : x * x < y * y := Int.lt_of_le_of_lt (Int.mul_le_mul_of_nonneg_left (by omega) hx) (Int.mul_lt_mul_of_pos_right h (by omega))
theorem sq_le_of {x y : Int} (hy : 0 ≤ y) (h : x * x ≤ y * y) : x ≤ y := by
  rcases Int.lt_or_le y x with z | z
  · have := sq_lt hy z; omega
  · exact z
theorem rt_sq {r : Int} (h : 0 ≤ r) : IsRt (r * r) r := ⟨h, Int.le_refl _, fun t h1 h2 => sq_lt h1 h2⟩
theorem put_name {i : Nat} {d : D} {ρ : Env} : (tgName i).put d ρ = some (ρ.set i (.val d)) := rfl
theorem two_pow (j : Nat) : (0 : Int) < 2 ^ j := Int.pow_pos (by decide)
theorem bd_two (j : Nat) : Bd (j + 1) (2 ^ j) := by
  unfold Bd
  rw [Int.natAbs_pow]
  exact Nat.pow_lt_pow_right (by decide) (Nat.lt_succ_self j)
theorem up_wh {N : Int} {n : Nat} (hN : 0 ≤ N) (hb : Bd n N) (hn : n < 3000) {k : Nat} {s : Slot} : ∀ (f j : Nat), j ≤ n → n < j + f → ∃ h : Int, 0 < h ∧ N < h * h ∧ Bd (n + 1) h ∧
    whLoop (dBinB cLe (dBin D.mul (dV 2) (dV 2)) (dV 0)) (sSeq (sAug 2 D.mul (dC (.int 2))) sNext) f [.val (.int N), .val (.int 0), .val (.int (2 ^ j)), s] k = some (.nx [.val (.int N), .val (.int 0), .val (.int h), s], k) := by
  intro f
  induction f with
  | zero => intro j h1 h2; omega
  | succ f ih =>
    intro j h1 h2
    unfold whLoop
    have hj := two_pow j
    have bj := bd_two j
    have m1 : D.mul (.int (2 ^ j)) (.int (2 ^ j)) = some (.int (2 ^ j * 2 ^ j)) := mul_bd bj bj (by omega)
    have m2 : D.mul (.int (2 ^ j)) (.int 2) = some (.int (2 ^ j * 2)) := mul_bd bj (bd_of (n := 2) 2 (by decide) (by decide)) (by omega)
    by_cases c : (2 : Int) ^ j * 2 ^ j ≤ N
    · have hjn : j < n := by
        rcases Nat.lt_or_ge j n with z | z
        · exact z
        · have e : j = n := by omega
          subst e
          unfold Bd at hb
          have h3 : N < 2 ^ j := by
            have : ((N.natAbs : Nat) : Int) < ((2 ^ j : Nat) : Int) := Int.ofNat_lt.mpr hb
            rw [Int.natCast_pow] at this
            have e2 : ((N.natAbs : Nat) : Int) = N := by omega
            rw [e2] at this; exact this
          have h4 : (2 : Int) ^ j * 1 ≤ 2 ^ j * 2 ^ j := Int.mul_le_mul_of_nonneg_left (by omega) (by omega)
          omega
      obtain ⟨h, p1, p2, p3, p4⟩ := ih (j + 1) (by omega) (by omega)
      refine ⟨h, p1, p2, p3, ?_⟩
      rw [Int.pow_succ] at p4
      simp [dBinB, dBin, M.bind, dV, m1, M.lift, cLe, c, sSeq, sAug, dC, m2, M.pure, sNext, p4]
    · refine ⟨2 ^ j, hj, by omega, bj.mono (by omega), ?_⟩
      simp [dBinB, dBin, M.bind, dV, m1, M.lift, cLe, c, M.pure]
theorem down_wh {N s : Int} {n : Nat} (hs : IsRt N s) (hn : n < 3000) {k : Nat} : ∀ (f : Nat) (lo hi : Int) (x : Slot), 0 ≤ lo → lo ≤ s → s ≤ hi → Bd n hi → hi - lo < 2 ^ f → ∃ x' : Slot,
    whLoop (dBinB cLt (dV 1) (dV 2)) (sSeq (sAsg (dBin D.fdiv (dBin D.add (dV 1) (dV 2)) (dC (.int 2))) (tgName 3)) (sSeq (sIf (dBinB cLt (dBin D.mul (dV 3) (dV 3)) (dV 0)) (sSeq (sAsg (dBin D.add (dV 3) (dC (.int 1))) (tgName 1)) (sNext)) (sSeq (sAsg (dV 3) (tgName 2)) (sNext))) (sNext)))
      (f + 1) [.val (.int N), .val (.int lo), .val (.int hi), x] k = some (.nx [.val (.int N), .val (.int s), .val (.int s), x'], k) := by
  intro f
  induction f with
  | zero =>
    intro lo hi x h0 h1 h2 hb h3
    have e1 : lo = s := by omega
    have e2 : hi = s := by omega
    subst e1 e2
    refine ⟨x, ?_⟩
    unfold whLoop
    simp [dBinB, M.bind, dV, M.lift, cLt, M.pure]
  | succ f ih =>
    intro lo hi x h0 h1 h2 hb h3
    unfold whLoop
    by_cases c : lo < hi
    · have d2 : D.fdiv (.int (lo + hi)) (.int 2) = some (.int ((lo + hi) / 2)) := fdiv_ok (by decide)
      have pw : (2 : Int) ^ (f + 1) = 2 ^ f * 2 := Int.pow_succ ..
      have bm : Bd n ((lo + hi) / 2) := hb.le (by omega)
      have m1 : D.mul (.int ((lo + hi) / 2)) (.int ((lo + hi) / 2)) = some (.int ((lo + hi) / 2 * ((lo + hi) / 2))) := mul_bd bm bm (by omega)
      by_cases q : (lo + hi) / 2 * ((lo + hi) / 2) < N
      · have lt : (lo + hi) / 2 < s := by
          rcases Int.lt_or_le ((lo + hi) / 2) s with z | z
          · exact z
          · have := sq_mono hs.1 z; have := hs.2.1; omega
        obtain ⟨x', p⟩ := ih ((lo + hi) / 2 + 1) hi (.val (.int ((lo + hi) / 2))) (by omega) (by omega) h2 hb (by omega)
        refine ⟨x', ?_⟩
        simp [dBinB, dBin, M.bind, dV, M.lift, cLt, c, sSeq, sAsg, dC, D.add, d2, put_name, M.pure, sIf, m1, q, sNext, p]
      · have ge : s ≤ (lo + hi) / 2 := by
          rcases Int.lt_or_le ((lo + hi) / 2) s with z | z
          · have := hs.2.2 _ (by omega) z; omega
          · exact z
        obtain ⟨x', p⟩ := ih lo ((lo + hi) / 2) (.val (.int ((lo + hi) / 2))) h0 h1 ge bm (by omega)
        refine ⟨x', ?_⟩
        simp [dBinB, dBin, M.bind, dV, M.lift, cLt, c, sSeq, sAsg, dC, D.add, d2, put_name, M.pure, sIf, m1, q, sNext, p]
    · have e1 : lo = s := by omega
      have e2 : hi = s := by omega
      subst e1 e2
      refine ⟨x, ?_⟩
      simp [dBinB, M.bind, dV, M.lift, cLt, M.pure]
theorem rootB {N s : Int} {n : Nat} {k : Nat} (hN : 0 ≤ N) (hb : Bd n N) (hn : n < 2900) (hs : IsRt N s) : F_root [.int N] k = some (if s * s = N then .int s else .non, k) := by
  obtain ⟨h, p1, p2, p3, p4⟩ := up_wh hN hb (by omega) (k := k) (s := .no) 4000 0 (Nat.zero_le _) (by omega)
  have hsh : s ≤ h := by
    rcases Int.lt_or_le h s with z | z
    · have := hs.2.2 h (by omega) z; omega
    · exact z
  have hlt : h - 0 < 2 ^ 3999 := by
    unfold Bd at p3
    have h1 : ((h.natAbs : Nat) : Int) < ((2 ^ (n + 1) : Nat) : Int) := Int.ofNat_lt.mpr p3
    have h2 : ((2 ^ (n + 1) : Nat) : Int) ≤ ((2 ^ 3999 : Nat) : Int) := Int.ofNat_le.mpr (Nat.pow_le_pow_right (by decide) (by omega))
    rw [Int.natCast_pow 2 3999] at h2
    have e2 : ((h.natAbs : Nat) : Int) = h := by omega
    rw [e2] at h1
    have h5 : h < ((2 : Nat) : Int) ^ 3999 := Int.lt_of_lt_of_le h1 h2
    rw [Int.sub_zero]
    exact h5
  obtain ⟨x', p5⟩ := down_wh hs (n := n + 1) (by omega) (k := k) 3999 0 h .no (Int.le_refl _) hs.1 hsh p3 hlt
  rw [Int.pow_zero] at p4
  have bs : Bd (n + 1) s := p3.le (by have := hs.1; omega)
  have m1 : D.mul (.int s) (.int s) = some (.int (s * s)) := mul_bd bs bs (by omega)
  have e0 : startE 4 [.int N] = [.val (.int N), .no, .no, .no] := rfl
  unfold F_root runB
  rw [e0]
  have t2 : lim 2 = true := rfl
  simp only [S_root, sSeq, sWh, fuelN, sAsg, dTup, dCons, dC, dNil, tgTup, tgsCons, tgsNil, put_name, M.bind, M.pure, M.lift, List.length, Nat.zero_add, Nat.reduceAdd, t2, if_true, Nat.beq, List.set, p4, p5]
  by_cases c : s * s = N
  · simp [sRet, dIf, dEqB, dEq, dBin, dV, M.bind, M.lift, m1, dEqD, M.pure, c]
  · simp [sRet, dIf, dEqB, dEq, dBin, dV, M.bind, M.lift, m1, dEqD, M.pure, c, dC]
end Sky

end
section
namespace Sky
open PySem PySem.Spec PyProof.Rows L2
-- ### triples as one thing 
structure Ve where
  x : Int
  y : Int
  z : Int
  deriving DecidableEq
abbrev Ve.D (p : Ve) : D := v3 p.x p.y p.z
def Ve.dot (p q : Ve) : Int := p.x * q.x + p.y * q.y + p.z * q.z
def Ve.cr (p q : Ve) : Ve := ⟨p.y * q.z - p.z * q.y, p.z * q.x - p.x * q.z, p.x * q.y - p.y * q.x⟩
def Ve.sm (t : Int) (p : Ve) : Ve := ⟨t * p.x, t * p.y, t * p.z⟩
def M9.on (m : M9) (p : Ve) : Ve := ⟨m.a * p.x + m.b * p.y + m.c * p.z, m.d * p.x + m.e * p.y + m.f * p.z, m.g * p.x + m.h * p.y + m.i * p.z⟩
abbrev Ve.nz (p : Ve) : Prop := ¬ (p.x = 0 ∧ p.y = 0 ∧ p.z = 0)
abbrev Ve.Bd (n : Nat) (p : Ve) : Prop := T3 n p.x p.y p.z
theorem Ve.dot_pos {p : Ve} (h : p.nz) : 0 < p.dot p := by
  have h1 := sq_nn p.x; have h2 := sq_nn p.y; have h3 := sq_nn p.z
  unfold Ve.dot
  rcases Int.lt_or_le 0 (p.x * p.x + p.y * p.y + p.z * p.z) with z | z
  · exact z
  · have key : ∀ x : Int, x * x = 0 → x = 0 := fun x e => by rcases Int.mul_eq_zero.mp e with e | e <;> exact e
    exact absurd ⟨key p.x (by omega), key p.y (by omega), key p.z (by omega)⟩ h
theorem ve_dot {p q : Ve} {n m : Nat} {k : Nat} (hp : p.Bd n) (hq : q.Bd m) (hn : n + m < 1000000) : F_dot [p.D, q.D] k = some (.int (p.dot q), k) := dotB hp hq hn
theorem dot_bd {p q : Ve} {n m : Nat} (hp : p.Bd n) (hq : q.Bd m) : Sky.Bd (n + m + 2) (p.dot q) := T3.dot hp hq
-- ### ratios 
theorem lowestB {x y : Int} {n : Nat} {k : Nat} (hy : 0 < y) (hb : Sky.Bd n y) (hn : n < 9000) : F_lowest [.int x, .int y] k = some (.tup [.int (x / Int.gcd x y), .int (y / Int.gcd x y)], k) := by
  have hg : 0 < ((Int.gcd x y : Nat) : Int) := by
    have : 0 < Int.gcd x y := Int.gcd_pos_of_ne_zero_right _ (by omega)
    omega
  have hd : divOk ((Int.gcd x y : Nat) : Int) = true := by
    refine divOk_bd hg (hb.le ?_) hn
    exact Nat.le_of_dvd (by omega) (by simpa using Int.natAbs_dvd_natAbs.mpr (Int.gcd_dvd_right x y))
  have f1 : D.fdiv (.int x) (.int (Int.gcd x y : Nat)) = some (.int (x / (Int.gcd x y : Nat))) := fdiv_ok hd
  have f2 : D.fdiv (.int y) (.int (Int.gcd x y : Nat)) = some (.int (y / (Int.gcd x y : Nat))) := fdiv_ok hd
  simp [↓runB, ↓runI, ↓startE, ↓startI, ↓sSeq, ↓sRet, ↓sRetN, ↓sIf, ↓sAsg, ↓sDrop, ↓sFail, ↓sNext, ↓sPar2, ↓sPar3, ↓sFor, ↓forLoop, ↓sMe, ↓M.bind, ↓M.pure, ↓M.lift, ↓M.fail, ↓dBi, ↓dLc, ↓lcLoop, ↓dZip, ↓zipD, ↓pairD, ↓dEnumA, ↓enumD, ↓rangeD, ↓dRng, ↓dItems, ↓dCons, ↓dNil, ↓dBin, ↓dBinB, ↓dTup, ↓dLst, ↓dUn, ↓dIf, ↓dAndB, ↓dOrB, ↓dAndV, ↓dOrV, ↓dNotV, ↓D.tru, ↓dNotB, ↓dVal, ↓dIsi, ↓dIsiT, ↓dFld, ↓dCall, ↓dMake, ↓dEq, ↓dEqB, ↓dEqD, ↓dV, ↓dVR, ↓dC, ↓dTrue, ↓dTru, ↓tgTup, ↓tgsCons, ↓tgName, ↓tgsNil, ↓wipeE, ↓bSum, ↓bLen, ↓bAbs, ↓bTup, ↓bLst, ↓bAll, ↓bAny, ↓intsD, ↓boolsD, ↓D.add, ↓D.sub, ↓D.neg, ↓D.ix, ↓atI, ↓ixN, ↓D.mod, ↓D.kl, ↓Kl.sub, ↓Kl.subs, ↓Cn.fields, ↓cLt, ↓cLe, ↓cGe, ↓cGtA, ↓cIs, ↓cIsNot, ↓D.isNon, ↓D.items, ↓rng, ↓okR, ↓lim, ↓eq0, ↓dMeth, ↓dGet1, ↓keyD, ↓sFrz, ↓sOwn, ↓sApp, ↓dDrw0, ↓dDrw1, ↓sInc, ↓dLenS, ↓dIxS, ↓dNeS, ↓dPow, ↓bInt, ↓eqT, F_lowest, S_lowest, common_spec, f1, f2]
theorem ratio0 {p q : Ve} {s : Int} {n : Nat} {k : Nat} (hp : p.nz) (hq : q.nz) (bp : p.Bd n) (bq : q.Bd n) (hn : n < 700) (hs : IsRt (p.dot p * q.dot q) s) :
    F_ratio [p.D, q.D] k = some (if s * s = p.dot p * q.dot q then .tup [.int (s / Int.gcd s (q.dot q)), .int (q.dot q / Int.gcd s (q.dot q))] else .non, k) := by
  have d1 := ve_dot (k := k) bp bp (by omega)
  have d2 := ve_dot (k := k) bq bq (by omega)
  have b1 := dot_bd bp bp
  have b2 := dot_bd bq bq
  have q1 := Ve.dot_pos hp
  have q2 := Ve.dot_pos hq
  have m1 : D.mul (.int (p.dot p)) (.int (q.dot q)) = some (.int (p.dot p * q.dot q)) := mul_bd b1 b2 (by omega)
  have r := rootB (k := k) (Int.le_of_lt (Int.mul_pos q1 q2)) (b1.mul b2) (by omega) hs
  have l := lowestB (x := s) (k := k) q2 b2 (by omega)
  by_cases c : s * s = p.dot p * q.dot q
  · rw [if_pos c] at r ⊢
    simp [↓runB, ↓runI, ↓startE, ↓startI, ↓sSeq, ↓sRet, ↓sRetN, ↓sIf, ↓sAsg, ↓sDrop, ↓sFail, ↓sNext, ↓sPar2, ↓sPar3, ↓sFor, ↓forLoop, ↓sMe, ↓M.bind, ↓M.pure, ↓M.lift, ↓M.fail, ↓dBi, ↓dLc, ↓lcLoop, ↓dZip, ↓zipD, ↓pairD, ↓dEnumA, ↓enumD, ↓rangeD, ↓dRng, ↓dItems, ↓dCons, ↓dNil, ↓dBin, ↓dBinB, ↓dTup, ↓dLst, ↓dUn, ↓dIf, ↓dAndB, ↓dOrB, ↓dAndV, ↓dOrV, ↓dNotV, ↓D.tru, ↓dNotB, ↓dVal, ↓dIsi, ↓dIsiT, ↓dFld, ↓dCall, ↓dMake, ↓dEq, ↓dEqB, ↓dEqD, ↓dV, ↓dVR, ↓dC, ↓dTrue, ↓dTru, ↓tgTup, ↓tgsCons, ↓tgName, ↓tgsNil, ↓wipeE, ↓bSum, ↓bLen, ↓bAbs, ↓bTup, ↓bLst, ↓bAll, ↓bAny, ↓intsD, ↓boolsD, ↓D.add, ↓D.sub, ↓D.neg, ↓D.ix, ↓atI, ↓ixN, ↓D.mod, ↓D.kl, ↓Kl.sub, ↓Kl.subs, ↓Cn.fields, ↓cLt, ↓cLe, ↓cGe, ↓cGtA, ↓cIs, ↓cIsNot, ↓D.isNon, ↓D.items, ↓rng, ↓okR, ↓lim, ↓eq0, ↓dMeth, ↓dGet1, ↓keyD, ↓sFrz, ↓sOwn, ↓sApp, ↓dDrw0, ↓dDrw1, ↓sInc, ↓dLenS, ↓dIxS, ↓dNeS, ↓dPow, ↓bInt, ↓eqT, F_ratio, S_ratio, check_triple_spec hp, check_triple_spec hq, d1, d2, m1, r, l]
  · rw [if_neg c] at r ⊢
    simp [↓runB, ↓runI, ↓startE, ↓startI, ↓sSeq, ↓sRet, ↓sRetN, ↓sIf, ↓sAsg, ↓sDrop, ↓sFail, ↓sNext, ↓sPar2, ↓sPar3, ↓sFor, ↓forLoop, ↓sMe, ↓M.bind, ↓M.pure, ↓M.lift, ↓M.fail, ↓dBi, ↓dLc, ↓lcLoop, ↓dZip, ↓zipD, ↓pairD, ↓dEnumA, ↓enumD, ↓rangeD, ↓dRng, ↓dItems, ↓dCons, ↓dNil, ↓dBin, ↓dBinB, ↓dTup, ↓dLst, ↓dUn, ↓dIf, ↓dAndB, ↓dOrB, ↓dAndV, ↓dOrV, ↓dNotV, ↓D.tru, ↓dNotB, ↓dVal, ↓dIsi, ↓dIsiT, ↓dFld, ↓dCall, ↓dMake, ↓dEq, ↓dEqB, ↓dEqD, ↓dV, ↓dVR, ↓dC, ↓dTrue, ↓dTru, ↓tgTup, ↓tgsCons, ↓tgName, ↓tgsNil, ↓wipeE, ↓bSum, ↓bLen, ↓bAbs, ↓bTup, ↓bLst, ↓bAll, ↓bAny, ↓intsD, ↓boolsD, ↓D.add, ↓D.sub, ↓D.neg, ↓D.ix, ↓atI, ↓ixN, ↓D.mod, ↓D.kl, ↓Kl.sub, ↓Kl.subs, ↓Cn.fields, ↓cLt, ↓cLe, ↓cGe, ↓cGtA, ↓cIs, ↓cIsNot, ↓D.isNon, ↓D.items, ↓rng, ↓okR, ↓lim, ↓eq0, ↓dMeth, ↓dGet1, ↓keyD, ↓sFrz, ↓sOwn, ↓sApp, ↓dDrw0, ↓dDrw1, ↓sInc, ↓dLenS, ↓dIxS, ↓dNeS, ↓dPow, ↓bInt, ↓eqT, F_ratio, S_ratio, check_triple_spec hp, check_triple_spec hq, d1, d2, m1, r]
/-- a ratio that is there: up is to down as one length to the other -/
theorem ratio_yes {p q : Ve} {r : Int} {n : Nat} (hp : p.nz) (hq : q.nz) (bp : p.Bd n) (bq : q.Bd n) (hn : n < 700) (hr : 0 ≤ r) (e : r * r = p.dot p * q.dot q) : ∃ A B : Int, (∀ k, F_ratio [p.D, q.D] k = some (.tup [.int A, .int B], k)) ∧ 0 < A ∧ 0 < B ∧ A * q.dot q = B * r ∧
    Sky.Bd (2 * n + 2) A ∧ Sky.Bd (2 * n + 2) B := by
  have q1 := Ve.dot_pos hp
  have q2 := Ve.dot_pos hq
  have hr0 : 0 < r := by
    rcases Int.lt_or_le 0 r with z | z
    · exact z
    · have : r = 0 := by omega
      subst this
      have := Int.mul_pos q1 q2
      omega
  have hg : 0 < Int.gcd r (q.dot q) := Int.gcd_pos_of_ne_zero_right _ (by omega)
  have g1 : ((Int.gcd r (q.dot q) : Nat) : Int) ∣ r := Int.gcd_dvd_left ..
  have g2 : ((Int.gcd r (q.dot q) : Nat) : Int) ∣ q.dot q := Int.gcd_dvd_right ..
  have e1 := Int.mul_ediv_cancel' g1
  have e2 := Int.mul_ediv_cancel' g2
  refine ⟨r / (Int.gcd r (q.dot q) : Nat), q.dot q / (Int.gcd r (q.dot q) : Nat), fun k => by rw [ratio0 hp hq bp bq hn (e ▸ rt_sq hr), if_pos e], ?_, ?_, ?_, ?_, ?_⟩
  · exact Int.pos_of_mul_pos_right (by rw [e1]; exact hr0) (by omega)
  · exact Int.pos_of_mul_pos_right (by rw [e2]; exact q2) (by omega)
  · generalize ha : r / (Int.gcd r (q.dot q) : Nat) = A at *
    generalize hb : q.dot q / (Int.gcd r (q.dot q) : Nat) = B at *
    generalize ((Int.gcd r (q.dot q) : Nat) : Int) = g at *
    rw [← e1, ← e2]; grind
  · have hle : r ≤ p.dot p ∨ r ≤ q.dot q := by
      rcases Int.le_total (p.dot p) (q.dot q) with z | z
      · right; exact sq_le_of (by omega) (by rw [e]; exact Int.mul_le_mul_of_nonneg_right z (by omega))
      · left; exact sq_le_of (by omega) (by rw [e]; exact Int.mul_le_mul_of_nonneg_left z (by omega))
    have hd : r / (Int.gcd r (q.dot q) : Nat) ≤ r := Int.ediv_le_self _ hr
    have h0 : 0 ≤ r / (Int.gcd r (q.dot q) : Nat) := Int.ediv_nonneg hr (by omega)
    rcases hle with z | z
    · exact ((dot_bd bp bp).le (by omega)).mono (by omega)
    · exact ((dot_bd bq bq).le (by omega)).mono (by omega)
  · have hd : q.dot q / (Int.gcd r (q.dot q) : Nat) ≤ q.dot q := Int.ediv_le_self _ (by omega)
    have h0 : 0 ≤ q.dot q / (Int.gcd r (q.dot q) : Nat) := Int.ediv_nonneg (by omega) (by omega)
    exact ((dot_bd bq bq).le (by omega)).mono (by omega)
theorem ratio_no {p q : Ve} {n : Nat} (hp : p.nz) (hq : q.nz) (bp : p.Bd n) (bq : q.Bd n) (hn : n < 700) (e : ∀ r : Int, 0 ≤ r → r * r ≠ p.dot p * q.dot q) (k : Nat) : F_ratio [p.D, q.D] k = some (.non, k) := by
  have q1 := Ve.dot_pos hp
  have q2 := Ve.dot_pos hq
  have b := (Int.mul_pos q1 q2)
  obtain ⟨s, hs, _⟩ := rt_ex (N := p.dot p * q.dot q) (p.dot p * q.dot q).natAbs (by
    have e2 : (((p.dot p * q.dot q).natAbs : Nat) : Int) = p.dot p * q.dot q := by omega
    rw [e2]
    generalize p.dot p * q.dot q = N at *
    exact Int.le_trans (by omega) (Int.mul_le_mul_of_nonneg_left (show (1 : Int) ≤ N by omega) (by omega)))
  rw [ratio0 hp hq bp bq hn hs, if_neg (e s hs.1)]
-- ### pairs that are alike 
/-- a turn m over w takes p and q to g1 and g2 times p' and q' -/
structure Img (p q p' q' : Ve) (m : M9) (w g1 g2 : Int) : Prop where
  v : Va m w
  h1 : 0 < g1
  h2 : 0 < g2
  p : m.on p = Ve.sm g1 p'
  q : m.on q = Ve.sm g2 q'
theorem on_dot {m : M9} {w : Int} (v : Va m w) (p q : Ve) : (m.on p).dot (m.on q) = w * w * p.dot q := by
  obtain ⟨_, ⟨t1, t2, t3, t4, t5, t6⟩, _⟩ := v
  simp only [M9.tr] at t1 t2 t3 t4 t5 t6
  simp only [Ve.dot, M9.on]
  have e : (m.a * p.x + m.b * p.y + m.c * p.z) * (m.a * q.x + m.b * q.y + m.c * q.z) + (m.d * p.x + m.e * p.y + m.f * p.z) * (m.d * q.x + m.e * q.y + m.f * q.z) + (m.g * p.x + m.h * p.y + m.i * p.z) * (m.g * q.x + m.h * q.y + m.i * q.z) =
      (m.a * m.a + m.d * m.d + m.g * m.g) * (p.x * q.x) + (m.b * m.b + m.e * m.e + m.h * m.h) * (p.y * q.y) + (m.c * m.c + m.f * m.f + m.i * m.i) * (p.z * q.z) + (m.a * m.b + m.d * m.e + m.g * m.h) * (p.x * q.y + p.y * q.x) + (m.a * m.c + m.d * m.f + m.g * m.i) * (p.x * q.z + p.z * q.x) + (m.b * m.c + m.e * m.f + m.h * m.i) * (p.y * q.z + p.z * q.y) := by grind
  rw [e, t1, t2, t3, t4, t5, t6]; grind
theorem sm_dot (a b : Int) (p q : Ve) : (Ve.sm a p).dot (Ve.sm b q) = a * b * p.dot q := by simp only [Ve.dot, Ve.sm]; grind
theorem len_of {m : M9} {w g : Int} {p p' : Ve} (v : Va m w) (e : m.on p = Ve.sm g p') : g * g * p'.dot p' = w * w * p.dot p := by
  have := on_dot v p p
  rw [e, sm_dot] at this
  exact this
theorem rat_of {m : M9} {w g : Int} {p p' : Ve} (v : Va m w) (hg : 0 < g) (e : m.on p = Ve.sm g p') : ∃ r, 0 ≤ r ∧ r * r = p.dot p * p'.dot p' ∧ g * r = w * p.dot p := by
  have l := len_of v e
  have h0 : 0 ≤ p.dot p := by
    have h1 := sq_nn p.x; have h2 := sq_nn p.y; have h3 := sq_nn p.z
    unfold Ve.dot; omega
  have hd : g ∣ w * p.dot p := by
    have : g ^ 2 ∣ (w * p.dot p) ^ 2 := ⟨p.dot p * p'.dot p', by
      have e2 : ∀ x : Int, x ^ 2 = x * x := fun x => by rw [Int.pow_succ, Int.pow_succ, Int.pow_zero, Int.one_mul]
      rw [e2, e2]; grind⟩
    exact (Int.pow_dvd_pow_iff (by decide)).mp this
  obtain ⟨r, hr⟩ := hd
  have hr0 : 0 ≤ r := by
    have h3 : 0 ≤ g * r := by rw [← hr]; exact Int.mul_nonneg (Int.le_of_lt v.p) h0
    rcases Int.lt_or_le r 0 with z | z
    · have := Int.mul_neg_of_pos_of_neg hg z; omega
    · exact z
  refine ⟨r, hr0, ?_, hr.symm⟩
  have gg : 0 < g * g := Int.mul_pos hg hg
  exact Int.eq_of_mul_eq_mul_left (show g * g ≠ 0 by omega) (by
    have : g * g * (r * r) = (g * r) * (g * r) := by grind
    rw [this, ← hr]; grind)
/-- by a turn, the lengths' ratio is that of the numbers -/
theorem ratio_img {m : M9} {w g : Int} {p p' : Ve} {n : Nat} (v : Va m w) (hg : 0 < g) (e : m.on p = Ve.sm g p') (hp : p.nz) (hp' : p'.nz) (bp : p.Bd n) (bp' : p'.Bd n) (hn : n < 700) :
    ∃ A B : Int, (∀ k, F_ratio [p.D, p'.D] k = some (.tup [.int A, .int B], k)) ∧ 0 < A ∧ 0 < B ∧ A * w = B * g ∧ Sky.Bd (2 * n + 2) A ∧ Sky.Bd (2 * n + 2) B := by
  obtain ⟨r, h0, h1, h2⟩ := rat_of v hg e
  obtain ⟨A, B, r1, r2, r3, r4, r5, r6⟩ := ratio_yes hp hp' bp bp' hn h0 h1
  refine ⟨A, B, r1, r2, r3, ?_, r5, r6⟩
  have l := len_of v e
  have hpp := Ve.dot_pos hp
  have k0 : 0 < w * p.dot p := Int.mul_pos v.p hpp
  refine Int.eq_of_mul_eq_mul_left (show w * p.dot p ≠ 0 by omega) ?_
  have e3 : w * p.dot p * (A * w) = A * (w * w * p.dot p) := by grind
  rw [e3, ← l]
  have e4 : A * (g * g * p'.dot p') = g * g * (A * p'.dot p') := by grind
  rw [e4, r4, ← h2]; grind
end Sky

end
section
namespace Sky
open PySem PySem.Spec PyProof.Rows L2
theorem can_pos {a x y : Int} (ha : 0 < a) (h : a * x = a * y) : x = y := Int.eq_of_mul_eq_mul_left (by omega) h
theorem nn_of {a x : Int} (ha : 0 < a) (h : 0 ≤ a * x) : 0 ≤ x := by
  rcases Int.lt_or_le x 0 with z | z
  · have := Int.mul_neg_of_pos_of_neg ha z; omega
  · exact z
theorem dots_of {p q p' q' : Ve} {m : M9} {w g1 g2 : Int} (i : Img p q p' q' m w g1 g2) : g1 * g2 * p'.dot q' = w * w * p.dot q := by
  have := on_dot i.v p q
  rw [i.p, i.q, sm_dot] at this
  exact this
theorem alike_num {p q p' q' : Ve} {m : M9} {w g1 g2 A B U V : Int} (i : Img p q p' q' m w g1 g2) (hA : A * w = B * g1) (hU : U * w = V * g2) :
    0 ≤ p.dot q * p'.dot q' ∧ p.dot q * p.dot q * p'.dot p' * q'.dot q' = p'.dot q' * p'.dot q' * (p.dot p * q.dot q) ∧ p'.dot q' * A * U = p.dot q * B * V := by
  have d := dots_of i
  have l1 := len_of i.v i.p
  have l2 := len_of i.v i.q
  have hw := i.v.p
  have h1 := i.h1
  have h2 := i.h2
  generalize p.dot q = M at *
  generalize p'.dot q' = T at *
  generalize p.dot p = a at *
  generalize q.dot q = b at *
  generalize p'.dot p' = c at *
  generalize q'.dot q' = e at *
  have gg : 0 < g1 * g2 := Int.mul_pos h1 h2
  have ww : 0 < w * w := Int.mul_pos hw hw
  refine ⟨nn_of gg ?_, can_pos (Int.mul_pos gg gg) ?_, can_pos ww ?_⟩
  · have : g1 * g2 * (M * T) = w * w * (M * M) := by
      have e1 : g1 * g2 * (M * T) = M * (g1 * g2 * T) := by grind
      rw [e1, d]; grind
    rw [this]
    exact Int.mul_nonneg (by omega) (sq_nn M)
  · have e1 : g1 * g2 * (g1 * g2) * (M * M * c * e) = M * M * (g1 * g1 * c) * (g2 * g2 * e) := by grind
    have e2 : g1 * g2 * (g1 * g2) * (T * T * (a * b)) = (g1 * g2 * T) * (g1 * g2 * T) * (a * b) := by grind
    rw [e1, e2, l1, l2, d]; grind
  · have e1 : w * w * (T * A * U) = T * (A * w) * (U * w) := by grind
    have e2 : w * w * (M * B * V) = (w * w * M) * (B * V) := by grind
    rw [e1, e2, hA, hU, ← d]; grind
theorem alikeB {p q p' q' : Ve} {m : M9} {w g1 g2 : Int} {n : Nat} (i : Img p q p' q' m w g1 g2) (hp : p.nz) (hq : q.nz) (hp' : p'.nz) (hq' : q'.nz) (bp : p.Bd n) (bq : q.Bd n) (bp' : p'.Bd n) (bq' : q'.Bd n) (hn : n < 700) (k : Nat) :
    F_are_alike [p.D, q.D, p'.D, q'.D] k = some (.bl true, k) := by
  obtain ⟨A, B, ra, a1, b1, e1, ba, bb⟩ := ratio_img i.v i.h1 i.p hp hp' bp bp' hn
  obtain ⟨U, V, ru, u1, v1, e2, bu, bv⟩ := ratio_img i.v i.h2 i.q hq hq' bq bq' hn
  obtain ⟨n1, n2, n3⟩ := alike_num i e1 e2
  have d1 := ve_dot (k := k) bp bq (by omega)
  have d2 := ve_dot (k := k) bp' bq' (by omega)
  have d3 := ve_dot (k := k) bp' bp' (by omega)
  have d4 := ve_dot (k := k) bq' bq' (by omega)
  have d5 := ve_dot (k := k) bp bp (by omega)
  have d6 := ve_dot (k := k) bq bq (by omega)
  have c1 := dot_bd bp bq
  have c2 := dot_bd bp' bq'
  have c3 := dot_bd bp' bp'
  have c4 := dot_bd bq' bq'
  have c5 := dot_bd bp bp
  have c6 := dot_bd bq bq
  have m1 := mul_bd c1 c2 (by omega)
  have m2 := mul_bd c1 c1 (by omega)
  have m3 := mul_bd (c1.mul c1) c3 (by omega)
  have m4 := mul_bd ((c1.mul c1).mul c3) c4 (by omega)
  have m5 := mul_bd c2 c2 (by omega)
  have m6 := mul_bd c5 c6 (by omega)
  have m7 := mul_bd (c2.mul c2) (c5.mul c6) (by omega)
  have m8 := mul_bd c2 ba (by omega)
  have m9 := mul_bd (c2.mul ba) bu (by omega)
  have m10 := mul_bd c1 bb (by omega)
  have m11 := mul_bd (c1.mul bb) bv (by omega)
  have n1' : ¬ (p.dot q * p'.dot q' < 0) := by omega
  simp [↓runB, ↓runI, ↓startE, ↓startI, ↓sSeq, ↓sRet, ↓sRetN, ↓sIf, ↓sAsg, ↓sDrop, ↓sFail, ↓sNext, ↓sPar2, ↓sPar3, ↓sFor, ↓forLoop, ↓sMe, ↓M.bind, ↓M.pure, ↓M.lift, ↓M.fail, ↓dBi, ↓dLc, ↓lcLoop, ↓dZip, ↓zipD, ↓pairD, ↓dEnumA, ↓enumD, ↓rangeD, ↓dRng, ↓dItems, ↓dCons, ↓dNil, ↓dBin, ↓dBinB, ↓dTup, ↓dLst, ↓dUn, ↓dIf, ↓dAndB, ↓dOrB, ↓dAndV, ↓dOrV, ↓dNotV, ↓D.tru, ↓dNotB, ↓dVal, ↓dIsi, ↓dIsiT, ↓dFld, ↓dCall, ↓dMake, ↓dEq, ↓dEqB, ↓dEqD, ↓dV, ↓dVR, ↓dC, ↓dTrue, ↓dTru, ↓tgTup, ↓tgsCons, ↓tgName, ↓tgsNil, ↓wipeE, ↓bSum, ↓bLen, ↓bAbs, ↓bTup, ↓bLst, ↓bAll, ↓bAny, ↓intsD, ↓boolsD, ↓D.add, ↓D.sub, ↓D.neg, ↓D.ix, ↓atI, ↓ixN, ↓D.mod, ↓D.kl, ↓Kl.sub, ↓Kl.subs, ↓Cn.fields, ↓cLt, ↓cLe, ↓cGe, ↓cGtA, ↓cIs, ↓cIsNot, ↓D.isNon, ↓D.items, ↓rng, ↓okR, ↓lim, ↓eq0, ↓dMeth, ↓dGet1, ↓keyD, ↓sFrz, ↓sOwn, ↓sApp, ↓dDrw0, ↓dDrw1, ↓sInc, ↓dLenS, ↓dIxS, ↓dNeS, ↓dPow, ↓bInt, ↓eqT, F_are_alike, S_are_alike, F_size_of, S_size_of, d1, d2, d3, d4, d5, d6, ra k, ru k, m1, m2, m3, m4, m5, m6, m7, m8, m9, m10, m11, n1', n2, n3]
end Sky

end
section
namespace Sky
open PySem PySem.Spec PyProof.Rows L2
/-- columns times duals -/
def tens (c0 c1 c2 d0 d1 d2 : Ve) : M9 := ⟨c0.x * d0.x + c1.x * d1.x + c2.x * d2.x, c0.x * d0.y + c1.x * d1.y + c2.x * d2.y, c0.x * d0.z + c1.x * d1.z + c2.x * d2.z,
  c0.y * d0.x + c1.y * d1.x + c2.y * d2.x, c0.y * d0.y + c1.y * d1.y + c2.y * d2.y, c0.y * d0.z + c1.y * d1.z + c2.y * d2.z,
  c0.z * d0.x + c1.z * d1.x + c2.z * d2.x, c0.z * d0.y + c1.z * d1.y + c2.z * d2.y, c0.z * d0.z + c1.z * d1.z + c2.z * d2.z⟩
def rowLoop : SemS := sFor (dRng (dCons (dC (.int 3)) dNil)) (tgName 7) (sSeq (sApp 6 (dBi bTup (dCons (dLc [8] (dRng (dCons (dC (.int 3)) dNil)) (tgName 8) (dTrue) (dBi bSum (dCons (dLc [9] (dRng (dCons (dC (.int 3)) dNil)) (tgName 9) (dTrue) (dBin D.mul (dBin D.ix (dBin D.ix (dV 3) (dV 9)) (dV 7)) (dBin D.ix (dBin D.ix (dV 5) (dV 9)) (dV 8)))) (dNil)))) (dNil)))) (sNext))
set_option maxHeartbeats 4000000 in
theorem row_loop {c0 c1 c2 d0 d1 d2 : Ve} {n m : Nat} {k : Nat} {s0 s1 s2 s4 : Slot} (h0 : c0.Bd n) (h1 : c1.Bd n) (h2 : c2.Bd n) (g0 : d0.Bd m) (g1 : d1.Bd m) (g2 : d2.Bd m) (hn : n + m < 1000000) :
    rowLoop [s0, s1, s2, .val (.lst [c0.D, c1.D, c2.D]), s4, .val (.lst [d0.D, d1.D, d2.D]), .own (.lst []), .no, .no, .no] k =
      some (.nx [s0, s1, s2, .val (.lst [c0.D, c1.D, c2.D]), s4, .val (.lst [d0.D, d1.D, d2.D]), .own (.lst (tens c0 c1 c2 d0 d1 d2).rows), .val (.int 2), .no, .no], k) := by
  have hr : (List.range 3) = [0, 1, 2] := rfl
  simp [↓runB, ↓runI, ↓startE, ↓startI, ↓sSeq, ↓sRet, ↓sRetN, ↓sIf, ↓sAsg, ↓sDrop, ↓sFail, ↓sNext, ↓sPar2, ↓sPar3, ↓sFor, ↓forLoop, ↓sMe, ↓M.bind, ↓M.pure, ↓M.lift, ↓M.fail, ↓dBi, ↓dLc, ↓lcLoop, ↓dZip, ↓zipD, ↓pairD, ↓dEnumA, ↓enumD, ↓rangeD, ↓dRng, ↓dItems, ↓dCons, ↓dNil, ↓dBin, ↓dBinB, ↓dTup, ↓dLst, ↓dUn, ↓dIf, ↓dAndB, ↓dOrB, ↓dAndV, ↓dOrV, ↓dNotV, ↓D.tru, ↓dNotB, ↓dVal, ↓dIsi, ↓dIsiT, ↓dFld, ↓dCall, ↓dMake, ↓dEq, ↓dEqB, ↓dEqD, ↓dV, ↓dVR, ↓dC, ↓dTrue, ↓dTru, ↓tgTup, ↓tgsCons, ↓tgName, ↓tgsNil, ↓wipeE, ↓bSum, ↓bLen, ↓bAbs, ↓bTup, ↓bLst, ↓bAll, ↓bAny, ↓intsD, ↓boolsD, ↓D.add, ↓D.sub, ↓D.neg, ↓D.ix, ↓atI, ↓ixN, ↓D.mod, ↓D.kl, ↓Kl.sub, ↓Kl.subs, ↓Cn.fields, ↓cLt, ↓cLe, ↓cGe, ↓cGtA, ↓cIs, ↓cIsNot, ↓D.isNon, ↓D.items, ↓rng, ↓okR, ↓lim, ↓eq0, ↓dMeth, ↓dGet1, ↓keyD, ↓sFrz, ↓sOwn, ↓sApp, ↓dDrw0, ↓dDrw1, ↓sInc, ↓dLenS, ↓dIxS, ↓dNeS, ↓dPow, ↓bInt, ↓eqT, rowLoop, hr, tens, mul_bd h0.a g0.a hn, mul_bd h0.a g0.b hn, mul_bd h0.a g0.c hn, mul_bd h0.b g0.a hn, mul_bd h0.b g0.b hn, mul_bd h0.b g0.c hn, mul_bd h0.c g0.a hn, mul_bd h0.c g0.b hn, mul_bd h0.c g0.c hn,
    mul_bd h1.a g1.a hn, mul_bd h1.a g1.b hn, mul_bd h1.a g1.c hn, mul_bd h1.b g1.a hn, mul_bd h1.b g1.b hn, mul_bd h1.b g1.c hn, mul_bd h1.c g1.a hn, mul_bd h1.c g1.b hn, mul_bd h1.c g1.c hn,
    mul_bd h2.a g2.a hn, mul_bd h2.a g2.b hn, mul_bd h2.a g2.c hn, mul_bd h2.b g2.a hn, mul_bd h2.b g2.b hn, mul_bd h2.b g2.c hn, mul_bd h2.c g2.a hn, mul_bd h2.c g2.b hn, mul_bd h2.c g2.c hn, Int.add_assoc]
def det3 (p q r : Ve) : Int := (p.y * q.z - p.z * q.y) * r.x + (p.z * q.x - p.x * q.z) * r.y + (p.x * q.y - p.y * q.x) * r.z
theorem cr_bd {p q : Ve} {n m : Nat} (hp : p.Bd n) (hq : q.Bd m) : (p.cr q).Bd (n + m + 1) := T3.cross hp hq
theorem sm_bd {p : Ve} {t : Int} {n m : Nat} (hp : p.Bd n) (ht : Sky.Bd m t) : (Ve.sm t p).Bd (m + n) := T3.times hp ht
theorem turn_ofB {b0 b1 b2 i0 i1 i2 : Ve} {w : Int} {n n' m l e : Nat} {k : Nat} (h0 : b0.Bd n) (h1 : b1.Bd n) (h2 : b2.Bd n') (g0 : i0.Bd m) (g1 : i1.Bd m) (g2 : i2.Bd e) (he : l + m ≤ e) (hw : Sky.Bd l w) (hn : n + n' + 1 + e < 1000000) (hnn : n ≤ n') (hn2 : n + n + 1 + n' + 2 + l + l < 9000)
    (va : Va (tens (Ve.sm w i0) (Ve.sm w i1) i2 (b1.cr b2) (b2.cr b0) (b0.cr b1)) (det3 b0 b1 b2 * w * w)) :
    F_turn_of [.tup [b0.D, b1.D, b2.D], .tup [i0.D, i1.D, i2.D], .int w] k = some (TN (tens (Ve.sm w i0) (Ve.sm w i1) i2 (b1.cr b2) (b2.cr b0) (b0.cr b1)) (det3 b0 b1 b2 * w * w), k) := by
  have t0 : F_times [.int w, i0.D] k = some ((Ve.sm w i0).D, k) := timesB hw g0 (by omega)
  have t1 : F_times [.int w, i1.D] k = some ((Ve.sm w i1).D, k) := timesB hw g1 (by omega)
  have dd : F_det [b0.D, b1.D, b2.D] k = some (.int (det3 b0 b1 b2), k) := detB h0 h1 h2 (by omega) (by omega)
  have bs : Sky.Bd (n + n + 1 + n' + 2) (det3 b0 b1 b2) := T3.dot (h0.cross h1) h2
  have x0 : F_cross [b1.D, b2.D] k = some ((b1.cr b2).D, k) := crossB h1 h2 (by omega)
  have x1 : F_cross [b2.D, b0.D] k = some ((b2.cr b0).D, k) := crossB h2 h0 (by omega)
  have x2 : F_cross [b0.D, b1.D] k = some ((b0.cr b1).D, k) := crossB h0 h1 (by omega)
  have e0 := (cr_bd h1 h2).mono (show n + n' + 1 ≤ n + n' + 1 by omega)
  have e1 := (cr_bd h2 h0).mono (show n' + n + 1 ≤ n + n' + 1 by omega)
  have e2 := (cr_bd h0 h1).mono (show n + n + 1 ≤ n + n' + 1 by omega)
  have r := row_loop (s0 := .val (.tup [b0.D, b1.D, b2.D])) (s1 := .val (.tup [i0.D, i1.D, i2.D])) (s2 := .val (.int w)) (s4 := .val (.int (det3 b0 b1 b2))) (k := k) ((sm_bd g0 hw).mono he) ((sm_bd g1 hw).mono he) g2 e0 e1 e2 (by omega)
  have mk := mkB (k := k) va ((bs.mul hw).mul hw) (by omega)
  have m1 := mul_bd bs hw (by omega)
  have m2 := mul_bd (bs.mul hw) hw (by omega)
  unfold F_turn_of S_turn_of
  rw [show (sFor (dRng (dCons (dC (.int 3)) dNil)) (tgName 7) (sSeq (sApp 6 (dBi bTup (dCons (dLc [8] (dRng (dCons (dC (.int 3)) dNil)) (tgName 8) (dTrue) (dBi bSum (dCons (dLc [9] (dRng (dCons (dC (.int 3)) dNil)) (tgName 9) (dTrue) (dBin D.mul (dBin D.ix (dBin D.ix (dV 3) (dV 9)) (dV 7)) (dBin D.ix (dBin D.ix (dV 5) (dV 9)) (dV 8)))) (dNil)))) (dNil)))) (sNext))) = rowLoop from rfl]
  generalize hM : tens (Ve.sm w i0) (Ve.sm w i1) i2 (b1.cr b2) (b2.cr b0) (b0.cr b1) = T at *
  simp [↓runB, ↓runI, ↓startE, ↓startI, ↓sSeq, ↓sRet, ↓sRetN, ↓sIf, ↓sAsg, ↓sDrop, ↓sFail, ↓sNext, ↓sPar2, ↓sPar3, ↓sFor, ↓forLoop, ↓sMe, ↓M.bind, ↓M.pure, ↓M.lift, ↓M.fail, ↓dBi, ↓dLc, ↓lcLoop, ↓dZip, ↓zipD, ↓pairD, ↓dEnumA, ↓enumD, ↓rangeD, ↓dRng, ↓dItems, ↓dCons, ↓dNil, ↓dBin, ↓dBinB, ↓dTup, ↓dLst, ↓dUn, ↓dIf, ↓dAndB, ↓dOrB, ↓dAndV, ↓dOrV, ↓dNotV, ↓D.tru, ↓dNotB, ↓dVal, ↓dIsi, ↓dIsiT, ↓dFld, ↓dCall, ↓dMake, ↓dEq, ↓dEqB, ↓dEqD, ↓dV, ↓dVR, ↓dC, ↓dTrue, ↓dTru, ↓tgTup, ↓tgsCons, ↓tgName, ↓tgsNil, ↓wipeE, ↓bSum, ↓bLen, ↓bAbs, ↓bTup, ↓bLst, ↓bAll, ↓bAny, ↓intsD, ↓boolsD, ↓D.add, ↓D.sub, ↓D.neg, ↓D.ix, ↓atI, ↓ixN, ↓D.mod, ↓D.kl, ↓Kl.sub, ↓Kl.subs, ↓Cn.fields, ↓cLt, ↓cLe, ↓cGe, ↓cGtA, ↓cIs, ↓cIsNot, ↓D.isNon, ↓D.items, ↓rng, ↓okR, ↓lim, ↓eq0, ↓dMeth, ↓dGet1, ↓keyD, ↓sFrz, ↓sOwn, ↓sApp, ↓dDrw0, ↓dDrw1, ↓sInc, ↓dLenS, ↓dIxS, ↓dNeS, ↓dPow, ↓bInt, ↓eqT, t0, t1, dd, x0, x1, x2, r, m1, m2, mk, TN]
end Sky

end
section
namespace Sky
open PySem PySem.Spec PyProof.Rows L2
/-- which hand -/
structure Sg (m : M9) (w s : Int) : Prop where
  pm : s = 1 ∨ s = -1
  eq : dt m = s * (w * w * w)
theorem Sg.ss {m : M9} {w s : Int} (h : Sg m w s) : s * s = 1 := by rcases h.pm with e | e <;> rw [e] <;> rfl
theorem cof0 {w x y D s : Int} (hw : 0 < w) (hD : D = s * (w * w * w)) (h : w * w * x = D * y) : x = s * w * y := can_pos (Int.mul_pos hw hw) (by rw [h, hD]; grind)
/-- the cofactors of a turn -/
theorem cofs {m : M9} {w s : Int} (v : Va m w) (g : Sg m w s) : (m.e * m.i - m.f * m.h = s * w * m.a ∧ m.f * m.g - m.d * m.i = s * w * m.b ∧ m.d * m.h - m.e * m.g = s * w * m.c) ∧
    (m.h * m.c - m.i * m.b = s * w * m.d ∧ m.i * m.a - m.g * m.c = s * w * m.e ∧ m.g * m.b - m.h * m.a = s * w * m.f) ∧ (m.b * m.f - m.c * m.e = s * w * m.g ∧ m.c * m.d - m.a * m.f = s * w * m.h ∧ m.a * m.e - m.b * m.d = s * w * m.i) := by
  obtain ⟨_, ⟨t1, t2, t3, t4, t5, t6⟩, p⟩ := v
  have e := g.eq
  simp only [M9.tr] at t1 t2 t3 t4 t5 t6
  have hd : dt m = (m.b * m.f - m.c * m.e) * m.g + (m.c * m.d - m.a * m.f) * m.h + (m.a * m.e - m.b * m.d) * m.i := rfl
  refine ⟨⟨cof0 p e ?_, cof0 p e ?_, cof0 p e ?_⟩, ⟨cof0 p e ?_, cof0 p e ?_, cof0 p e ?_⟩, ⟨cof0 p e ?_, cof0 p e ?_, cof0 p e ?_⟩⟩
  · have : (m.a * m.a + m.d * m.d + m.g * m.g) * (m.e * m.i - m.f * m.h) + (m.a * m.b + m.d * m.e + m.g * m.h) * (m.f * m.g - m.d * m.i) + (m.a * m.c + m.d * m.f + m.g * m.i) * (m.d * m.h - m.e * m.g) = dt m * m.a := by rw [hd]; grind
    rw [t1, t4, t5] at this; rw [← this]; grind
  · have : (m.a * m.b + m.d * m.e + m.g * m.h) * (m.e * m.i - m.f * m.h) + (m.b * m.b + m.e * m.e + m.h * m.h) * (m.f * m.g - m.d * m.i) + (m.b * m.c + m.e * m.f + m.h * m.i) * (m.d * m.h - m.e * m.g) = dt m * m.b := by rw [hd]; grind
    rw [t2, t4, t6] at this; rw [← this]; grind
  · have : (m.a * m.c + m.d * m.f + m.g * m.i) * (m.e * m.i - m.f * m.h) + (m.b * m.c + m.e * m.f + m.h * m.i) * (m.f * m.g - m.d * m.i) + (m.c * m.c + m.f * m.f + m.i * m.i) * (m.d * m.h - m.e * m.g) = dt m * m.c := by rw [hd]; grind
    rw [t3, t5, t6] at this; rw [← this]; grind
  · have : (m.a * m.a + m.d * m.d + m.g * m.g) * (m.h * m.c - m.i * m.b) + (m.a * m.b + m.d * m.e + m.g * m.h) * (m.i * m.a - m.g * m.c) + (m.a * m.c + m.d * m.f + m.g * m.i) * (m.g * m.b - m.h * m.a) = dt m * m.d := by rw [hd]; grind
    rw [t1, t4, t5] at this; rw [← this]; grind
  · have : (m.a * m.b + m.d * m.e + m.g * m.h) * (m.h * m.c - m.i * m.b) + (m.b * m.b + m.e * m.e + m.h * m.h) * (m.i * m.a - m.g * m.c) + (m.b * m.c + m.e * m.f + m.h * m.i) * (m.g * m.b - m.h * m.a) = dt m * m.e := by rw [hd]; grind
    rw [t2, t4, t6] at this; rw [← this]; grind
  · have : (m.a * m.c + m.d * m.f + m.g * m.i) * (m.h * m.c - m.i * m.b) + (m.b * m.c + m.e * m.f + m.h * m.i) * (m.i * m.a - m.g * m.c) + (m.c * m.c + m.f * m.f + m.i * m.i) * (m.g * m.b - m.h * m.a) = dt m * m.f := by rw [hd]; grind
    rw [t3, t5, t6] at this; rw [← this]; grind
  · have : (m.a * m.a + m.d * m.d + m.g * m.g) * (m.b * m.f - m.c * m.e) + (m.a * m.b + m.d * m.e + m.g * m.h) * (m.c * m.d - m.a * m.f) + (m.a * m.c + m.d * m.f + m.g * m.i) * (m.a * m.e - m.b * m.d) = dt m * m.g := by rw [hd]; grind
    rw [t1, t4, t5] at this; rw [← this]; grind
  · have : (m.a * m.b + m.d * m.e + m.g * m.h) * (m.b * m.f - m.c * m.e) + (m.b * m.b + m.e * m.e + m.h * m.h) * (m.c * m.d - m.a * m.f) + (m.b * m.c + m.e * m.f + m.h * m.i) * (m.a * m.e - m.b * m.d) = dt m * m.h := by rw [hd]; grind
    rw [t2, t4, t6] at this; rw [← this]; grind
  · have : (m.a * m.c + m.d * m.f + m.g * m.i) * (m.b * m.f - m.c * m.e) + (m.b * m.c + m.e * m.f + m.h * m.i) * (m.c * m.d - m.a * m.f) + (m.c * m.c + m.f * m.f + m.i * m.i) * (m.a * m.e - m.b * m.d) = dt m * m.i := by rw [hd]; grind
    rw [t3, t5, t6] at this; rw [← this]; grind
/-- a turn of a cross -/
theorem on_cr {m : M9} {w s : Int} (v : Va m w) (g : Sg m w s) (p q : Ve) : (m.on p).cr (m.on q) = Ve.sm (s * w) (m.on (p.cr q)) := by
  obtain ⟨⟨c1, c2, c3⟩, ⟨c4, c5, c6⟩, ⟨c7, c8, c9⟩⟩ := cofs v g
  simp only [Ve.cr, M9.on, Ve.sm, Ve.mk.injEq]
  refine ⟨?_, ?_, ?_⟩
  · have : (m.d * p.x + m.e * p.y + m.f * p.z) * (m.g * q.x + m.h * q.y + m.i * q.z) - (m.g * p.x + m.h * p.y + m.i * p.z) * (m.d * q.x + m.e * q.y + m.f * q.z) = (m.e * m.i - m.f * m.h) * (p.y * q.z - p.z * q.y) + (m.f * m.g - m.d * m.i) * (p.z * q.x - p.x * q.z) + (m.d * m.h - m.e * m.g) * (p.x * q.y - p.y * q.x) := by grind
    rw [this, c1, c2, c3]; grind
  · have : (m.g * p.x + m.h * p.y + m.i * p.z) * (m.a * q.x + m.b * q.y + m.c * q.z) - (m.a * p.x + m.b * p.y + m.c * p.z) * (m.g * q.x + m.h * q.y + m.i * q.z) = (m.h * m.c - m.i * m.b) * (p.y * q.z - p.z * q.y) + (m.i * m.a - m.g * m.c) * (p.z * q.x - p.x * q.z) + (m.g * m.b - m.h * m.a) * (p.x * q.y - p.y * q.x) := by grind
    rw [this, c4, c5, c6]; grind
  · have : (m.a * p.x + m.b * p.y + m.c * p.z) * (m.d * q.x + m.e * q.y + m.f * q.z) - (m.d * p.x + m.e * p.y + m.f * p.z) * (m.a * q.x + m.b * q.y + m.c * q.z) = (m.b * m.f - m.c * m.e) * (p.y * q.z - p.z * q.y) + (m.c * m.d - m.a * m.f) * (p.z * q.x - p.x * q.z) + (m.a * m.e - m.b * m.d) * (p.x * q.y - p.y * q.x) := by grind
    rw [this, c7, c8, c9]; grind
theorem tens_sm (K : Int) (c0 c1 c2 d0 d1 d2 : Ve) : tens (Ve.sm K c0) (Ve.sm K c1) (Ve.sm K c2) d0 d1 d2 = (tens c0 c1 c2 d0 d1 d2).sc K := by
  simp only [tens, Ve.sm, M9.sc, M9.mk.injEq]
  refine ⟨?_, ?_, ?_, ?_, ?_, ?_, ?_, ?_, ?_⟩ <;> grind
theorem adj1 (b0 b1 b2 : Ve) (x y z : Int) : (x * b0.x + y * b0.y + z * b0.z) * (b1.y * b2.z - b1.z * b2.y) + (x * b1.x + y * b1.y + z * b1.z) * (b2.y * b0.z - b2.z * b0.y) + (x * b2.x + y * b2.y + z * b2.z) * (b0.y * b1.z - b0.z * b1.y) = det3 b0 b1 b2 * x := by simp only [det3]; grind
theorem adj2 (b0 b1 b2 : Ve) (x y z : Int) : (x * b0.x + y * b0.y + z * b0.z) * (b1.z * b2.x - b1.x * b2.z) + (x * b1.x + y * b1.y + z * b1.z) * (b2.z * b0.x - b2.x * b0.z) + (x * b2.x + y * b2.y + z * b2.z) * (b0.z * b1.x - b0.x * b1.z) = det3 b0 b1 b2 * y := by simp only [det3]; grind
theorem adj3 (b0 b1 b2 : Ve) (x y z : Int) : (x * b0.x + y * b0.y + z * b0.z) * (b1.x * b2.y - b1.y * b2.x) + (x * b1.x + y * b1.y + z * b1.z) * (b2.x * b0.y - b2.y * b0.x) + (x * b2.x + y * b2.y + z * b2.z) * (b0.x * b1.y - b0.y * b1.x) = det3 b0 b1 b2 * z := by simp only [det3]; grind
theorem tens_on (m : M9) (b0 b1 b2 : Ve) : tens (m.on b0) (m.on b1) (m.on b2) (b1.cr b2) (b2.cr b0) (b0.cr b1) = m.sc (det3 b0 b1 b2) := by
  simp only [tens, M9.on, Ve.cr, M9.sc, adj1, adj2, adj3]
theorem sm_sm (a b : Int) (p : Ve) : Ve.sm a (Ve.sm b p) = Ve.sm (a * b) p := by simp only [Ve.sm, Ve.mk.injEq]; refine ⟨?_, ?_, ?_⟩ <;> grind
theorem sm_cr (a b : Int) (p q : Ve) : (Ve.sm a p).cr (Ve.sm b q) = Ve.sm (a * b) (p.cr q) := by simp only [Ve.sm, Ve.cr, Ve.mk.injEq]; refine ⟨?_, ?_, ?_⟩ <;> grind
theorem sm_can {a : Int} (ha : 0 < a) {p q : Ve} (h : Ve.sm a p = Ve.sm a q) : p = q := by
  simp only [Ve.sm, Ve.mk.injEq] at h
  cases p; cases q
  simp only at h
  rw [can_pos ha h.1, can_pos ha h.2.1, can_pos ha h.2.2]
/-- the matrix of turn_of is the turn -/
theorem mat_of {p q p' q' : Ve} {m : M9} {w g1 g2 A B U V s : Int} (i : Img p q p' q' m w g1 g2) (g : Sg m w s) (hA : A * w = B * g1) (hU : U * w = V * g2) :
    (tens (Ve.sm (B * V) (Ve.sm (A * V) p')) (Ve.sm (B * V) (Ve.sm (U * B) q')) (Ve.sm s ((Ve.sm (A * V) p').cr (Ve.sm (U * B) q'))) (q.cr (p.cr q)) ((p.cr q).cr p) (p.cr q)).sc w = m.sc (det3 p q (p.cr q) * (B * V) * (B * V)) := by
  have f1 : Ve.sm w (Ve.sm (A * V) p') = Ve.sm (B * V) (m.on p) := by
    rw [i.p, sm_sm, sm_sm]
    have : w * (A * V) = B * V * g1 := by
      have : w * (A * V) = (A * w) * V := by grind
      rw [this, hA]; grind
    rw [this]
  have f2 : Ve.sm w (Ve.sm (U * B) q') = Ve.sm (B * V) (m.on q) := by
    rw [i.q, sm_sm, sm_sm]
    have : w * (U * B) = B * V * g2 := by
      have : w * (U * B) = (U * w) * B := by grind
      rw [this, hU]; grind
    rw [this]
  have f3 : Ve.sm w (Ve.sm s ((Ve.sm (A * V) p').cr (Ve.sm (U * B) q'))) = Ve.sm (B * V * (B * V)) (m.on (p.cr q)) := by
    have e : (Ve.sm w (Ve.sm (A * V) p')).cr (Ve.sm w (Ve.sm (U * B) q')) = Ve.sm (B * V * (B * V)) (Ve.sm (s * w) (m.on (p.cr q))) := by rw [f1, f2, sm_cr, on_cr i.v g]
    rw [sm_cr] at e
    generalize (Ve.sm (A * V) p').cr (Ve.sm (U * B) q') = C at *
    generalize m.on (p.cr q) = E at *
    have ss := g.ss
    refine sm_can i.v.p ?_
    have e1 : Ve.sm w (Ve.sm w (Ve.sm s C)) = Ve.sm s (Ve.sm (w * w) C) := by rw [sm_sm, sm_sm, sm_sm]; congr 1; grind
    rw [e1, e, sm_sm, sm_sm, sm_sm]
    congr 1
    have : s * (B * V * (B * V)) * (s * w) = s * s * (B * V * (B * V) * w) := by grind
    rw [this, ss]; grind
  have e1 : Ve.sm w (Ve.sm (B * V) (Ve.sm (A * V) p')) = Ve.sm (B * V * (B * V)) (m.on p) := by
    rw [sm_sm, Int.mul_comm w (B * V), ← sm_sm, f1, sm_sm]
  have e2 : Ve.sm w (Ve.sm (B * V) (Ve.sm (U * B) q')) = Ve.sm (B * V * (B * V)) (m.on q) := by
    rw [sm_sm, Int.mul_comm w (B * V), ← sm_sm, f2, sm_sm]
  rw [← tens_sm, e1, e2, f3, tens_sm, tens_on]
  simp only [M9.sc, M9.mk.injEq]
  refine ⟨?_, ?_, ?_, ?_, ?_, ?_, ?_, ?_, ?_⟩ <;> grind
theorem det_cr (p q : Ve) : det3 p q (p.cr q) = (p.cr q).dot (p.cr q) := rfl
/-- turn_of tells the turn -/
theorem turn_img {p q p' q' : Ve} {m : M9} {w g1 g2 A B U V s : Int} {n : Nat} (i : Img p q p' q' m w g1 g2) (g : Sg m w s) (hA : A * w = B * g1) (hU : U * w = V * g2) (hn : (p.cr q).nz) (hB : 0 < B) (hV : 0 < V)
    (bp : p.Bd n) (bq : q.Bd n) (bp' : p'.Bd n) (bq' : q'.Bd n) (bA : Sky.Bd (2 * n + 2) A) (bB : Sky.Bd (2 * n + 2) B) (bU : Sky.Bd (2 * n + 2) U) (bV : Sky.Bd (2 * n + 2) V) (h : n < 500) (k : Nat) :
    F_turn_of [.tup [p.D, q.D, (p.cr q).D], .tup [(Ve.sm (A * V) p').D, (Ve.sm (U * B) q').D, (Ve.sm s ((Ve.sm (A * V) p').cr (Ve.sm (U * B) q'))).D], .int (B * V)] k = some (TN m w, k) := by
  have mo := mat_of i g hA hU
  have hW : 0 < det3 p q (p.cr q) * (B * V) * (B * V) := by
    rw [det_cr]
    have := Int.mul_pos hB hV
    exact Int.mul_pos (Int.mul_pos (Ve.dot_pos hn) this) this
  have va : Va (tens (Ve.sm (B * V) (Ve.sm (A * V) p')) (Ve.sm (B * V) (Ve.sm (U * B) q')) (Ve.sm s ((Ve.sm (A * V) p').cr (Ve.sm (U * B) q'))) (q.cr (p.cr q)) ((p.cr q).cr p) (p.cr q)) (det3 p q (p.cr q) * (B * V) * (B * V)) := by
    refine Va.of_sc (c := w) ?_ i.v.p
    rw [mo, Int.mul_comm w]
    exact i.v.sc hW
  have bs : Sky.Bd 2 s := by rcases g.pm with e | e <;> rw [e] <;> (unfold Sky.Bd; decide)
  have b1 := sm_bd bp' (bA.mul bV)
  have b2 := sm_bd bq' (bU.mul bB)
  have b3 := sm_bd (cr_bd b1 b2) bs
  have t := turn_ofB (k := k) bp bq (cr_bd bp bq) b1 b2 (b3.mono (show _ ≤ 20 * n + 100 by omega)) (by omega) (bB.mul bV) (by omega) (by omega) (by omega) va
  rw [t]
  rw [TN_eq (m := tens (Ve.sm (B * V) (Ve.sm (A * V) p')) (Ve.sm (B * V) (Ve.sm (U * B) q')) (Ve.sm s ((Ve.sm (A * V) p').cr (Ve.sm (U * B) q'))) (q.cr (p.cr q)) ((p.cr q).cr p) (p.cr q)) i.v.p hW mo (Int.mul_comm _ _)]
end Sky

end
section
namespace Sky
open PySem PySem.Spec PyProof.Rows L2
theorem nz_sm {g : Int} {p : Ve} (hg : 0 < g) (h : p.nz) : (Ve.sm g p).nz := fun ⟨a, b, c⟩ => h (by
  have e : ∀ x : Int, g * x = 0 → x = 0 := fun x z => by rcases Int.mul_eq_zero.mp z with z | z <;> omega
  exact ⟨e _ a, e _ b, e _ c⟩)
theorem nz_sm0 {g : Int} {p : Ve} (hg : g ≠ 0) (h : p.nz) : (Ve.sm g p).nz := fun ⟨a, b, c⟩ => h (by
  have e : ∀ x : Int, g * x = 0 → x = 0 := fun x z => by rcases Int.mul_eq_zero.mp z with z | z <;> omega
  exact ⟨e _ a, e _ b, e _ c⟩)
theorem nz_of_sm {g : Int} {p : Ve} (h : (Ve.sm g p).nz) : p.nz := fun ⟨a, b, c⟩ => h (by simp only [Ve.sm, a, b, c, Int.mul_zero, and_self])
theorem on_nz {m : M9} {w : Int} {p : Ve} (v : Va m w) (h : p.nz) : (m.on p).nz := ap_ne v h
theorem img_nz {m : M9} {w g : Int} {p p' : Ve} (v : Va m w) (h : p.nz) (e : m.on p = Ve.sm g p') : p'.nz := nz_of_sm (g := g) (by rw [← e]; exact on_nz v h)
theorem cr_nz_l {p q : Ve} (h : (p.cr q).nz) : p.nz := fun ⟨a, b, c⟩ => h (by simp only [Ve.cr, a, b, c]; simp)
theorem cr_nz_r {p q : Ve} (h : (p.cr q).nz) : q.nz := fun ⟨a, b, c⟩ => h (by simp only [Ve.cr, a, b, c]; simp)
theorem img_cr {p q p' q' : Ve} {m : M9} {w g1 g2 s : Int} (i : Img p q p' q' m w g1 g2) (g : Sg m w s) (h : (p.cr q).nz) : (p'.cr q').nz := by
  have e := on_cr i.v g p q
  rw [i.p, i.q, sm_cr] at e
  refine nz_of_sm (g := g1 * g2) ?_
  rw [e]
  refine nz_sm0 ?_ (on_nz i.v h)
  have := i.v.p
  rcases g.pm with z | z <;> rw [z] <;> omega
/-- by its hand -/
def byHand (h : Str) (a b : D) : List D := if h = "plain" then [a] else if h = "mirrored" then [b] else [a, b]
def IsHand (h : Str) : Prop := h = "plain" ∨ h = "mirrored" ∨ h = "either"
theorem in_pp : cIn (.str "plain") (.tup [.str "plain", .str "either"]) = some true := by decide +kernel
theorem in_pm : cIn (.str "plain") (.tup [.str "mirrored", .str "either"]) = some false := by decide +kernel
theorem in_mp : cIn (.str "mirrored") (.tup [.str "plain", .str "either"]) = some false := by decide +kernel
theorem in_mm : cIn (.str "mirrored") (.tup [.str "mirrored", .str "either"]) = some true := by decide +kernel
theorem in_ep : cIn (.str "either") (.tup [.str "plain", .str "either"]) = some true := by decide +kernel
theorem in_em : cIn (.str "either") (.tup [.str "mirrored", .str "either"]) = some true := by decide +kernel
theorem notin_p : cNotIn (.str "plain") (.tup (hands3.map .str)) = some false := by decide +kernel
theorem notin_m : cNotIn (.str "mirrored") (.tup (hands3.map .str)) = some false := by decide +kernel
theorem notin_e : cNotIn (.str "either") (.tup (hands3.map .str)) = some false := by decide +kernel
theorem ne_mp : ¬ (("mirrored" : Str) = "plain") := by decide +kernel
theorem ne_ep : ¬ (("either" : Str) = "plain") := by decide +kernel
theorem ne_em : ¬ (("either" : Str) = "mirrored") := by decide +kernel
theorem check_hands_spec {h : Str} (hh : IsHand h) {k : Nat} : F_check_hands [.str h] k = some (.non, k) := by
  have e : cNotIn (.str h) (.tup (hands3.map .str)) = some false := by rcases hh with rfl | rfl | rfl <;> first | exact notin_p | exact notin_m | exact notin_e
  simp only [hands3, List.map] at e
  simp [↓runB, ↓runI, ↓startE, ↓startI, ↓sSeq, ↓sRet, ↓sRetN, ↓sIf, ↓sAsg, ↓sDrop, ↓sFail, ↓sNext, ↓sPar2, ↓sPar3, ↓sFor, ↓forLoop, ↓sMe, ↓M.bind, ↓M.pure, ↓M.lift, ↓M.fail, ↓dBi, ↓dLc, ↓lcLoop, ↓dZip, ↓zipD, ↓pairD, ↓dEnumA, ↓enumD, ↓rangeD, ↓dRng, ↓dItems, ↓dCons, ↓dNil, ↓dBin, ↓dBinB, ↓dTup, ↓dLst, ↓dUn, ↓dIf, ↓dAndB, ↓dOrB, ↓dAndV, ↓dOrV, ↓dNotV, ↓D.tru, ↓dNotB, ↓dVal, ↓dIsi, ↓dIsiT, ↓dFld, ↓dCall, ↓dMake, ↓dEq, ↓dEqB, ↓dEqD, ↓dV, ↓dVR, ↓dC, ↓dTrue, ↓dTru, ↓tgTup, ↓tgsCons, ↓tgName, ↓tgsNil, ↓wipeE, ↓bSum, ↓bLen, ↓bAbs, ↓bTup, ↓bLst, ↓bAll, ↓bAny, ↓intsD, ↓boolsD, ↓D.add, ↓D.sub, ↓D.neg, ↓D.ix, ↓atI, ↓ixN, ↓D.mod, ↓D.kl, ↓Kl.sub, ↓Kl.subs, ↓Cn.fields, ↓cLt, ↓cLe, ↓cGe, ↓cGtA, ↓cIs, ↓cIsNot, ↓D.isNon, ↓D.items, ↓rng, ↓okR, ↓lim, ↓eq0, ↓dMeth, ↓dGet1, ↓keyD, ↓sFrz, ↓sOwn, ↓sApp, ↓dDrw0, ↓dDrw1, ↓sInc, ↓dLenS, ↓dIxS, ↓dNeS, ↓dPow, ↓bInt, ↓eqT, F_check_hands, S_check_hands, hands3, e]
set_option maxHeartbeats 2000000 in
theorem foundB {p q p' q' : Ve} {m m' : M9} {w w' g1 g2 h1 h2 : Int} {n : Nat} {h : Str} (i : Img p q p' q' m w g1 g2) (g : Sg m w 1) (i' : Img p q p' q' m' w' h1 h2) (g' : Sg m' w' (-1)) (hn : (p.cr q).nz)
    (bp : p.Bd n) (bq : q.Bd n) (bp' : p'.Bd n) (bq' : q'.Bd n) (hb : n < 500) (hh : IsHand h) (k : Nat) : F_found_between [p.D, q.D, p'.D, q'.D, .str h] k = some (.lst (byHand h (TN m w) (TN m' w')), k) := by
  have hp := cr_nz_l hn
  have hq := cr_nz_r hn
  have hp' := img_nz i.v hp i.p
  have hq' := img_nz i.v hq i.q
  have hn' := img_cr i g hn
  have l1 : F_is_on_line [p.D, q.D] k = some (.bl false, k) := by
    have e := lineB (k := k) bp bq (by omega)
    rw [e]; congr 3; exact decide_eq_false hn
  have l2 : F_is_on_line [p'.D, q'.D] k = some (.bl false, k) := by
    have e := lineB (k := k) bp' bq' (by omega)
    rw [e]; congr 3; exact decide_eq_false hn'
  have al := alikeB i hp hq hp' hq' bp bq bp' bq' (by omega) k
  obtain ⟨A, B, ra, a1, b1, e1, ba, bb⟩ := ratio_img i.v i.h1 i.p hp hp' bp bp' (by omega)
  obtain ⟨U, V, ru, u1, v1, e2, bu, bv⟩ := ratio_img i.v i.h2 i.q hq hq' bq bq' (by omega)
  obtain ⟨A2, B2, ra2, a2, b2, e3, _, _⟩ := ratio_img i'.v i'.h1 i'.p hp hp' bp bp' (by omega)
  obtain ⟨U2, V2, ru2, u2, v2, e4, _, _⟩ := ratio_img i'.v i'.h2 i'.q hq hq' bq bq' (by omega)
  have ea : A2 = A ∧ B2 = B := by have := (ra k).symm.trans (ra2 k); simp at this; exact ⟨this.1.symm, this.2.symm⟩
  have eu : U2 = U ∧ V2 = V := by have := (ru k).symm.trans (ru2 k); simp at this; exact ⟨this.1.symm, this.2.symm⟩
  obtain ⟨rfl, rfl⟩ := ea
  obtain ⟨rfl, rfl⟩ := eu
  have t1 := turn_img i g e1 e2 hn b1 v1 bp bq bp' bq' ba bb bu bv hb k
  have t2 := turn_img i' g' e3 e4 hn b1 v1 bp bq bp' bq' ba bb bu bv hb k
  have m1 := mul_bd ba bv (by omega)
  have m2 := mul_bd bu bb (by omega)
  have m3 := mul_bd bb bv (by omega)
  have s1 : F_times [.int (A2 * V2), p'.D] k = some ((Ve.sm (A2 * V2) p').D, k) := timesB (ba.mul bv) bp' (by omega)
  have s2 : F_times [.int (U2 * B2), q'.D] k = some ((Ve.sm (U2 * B2) q').D, k) := timesB (bu.mul bb) bq' (by omega)
  have c1 := sm_bd bp' (ba.mul bv)
  have c2 := sm_bd bq' (bu.mul bb)
  have x1 : F_cross [(Ve.sm (A2 * V2) p').D, (Ve.sm (U2 * B2) q').D] k = some (((Ve.sm (A2 * V2) p').cr (Ve.sm (U2 * B2) q')).D, k) := crossB c1 c2 (by omega)
  have x2 : F_cross [p.D, q.D] k = some ((p.cr q).D, k) := crossB bp bq (by omega)
  have s3 : F_times [.int 1, ((Ve.sm (A2 * V2) p').cr (Ve.sm (U2 * B2) q')).D] k = some ((Ve.sm 1 ((Ve.sm (A2 * V2) p').cr (Ve.sm (U2 * B2) q'))).D, k) := timesB (m := 1) (by unfold Sky.Bd; decide) (cr_bd c1 c2) (by omega)
  have s4 : F_times [.int (-1), ((Ve.sm (A2 * V2) p').cr (Ve.sm (U2 * B2) q')).D] k = some ((Ve.sm (-1) ((Ve.sm (A2 * V2) p').cr (Ve.sm (U2 * B2) q'))).D, k) := timesB (m := 1) (by unfold Sky.Bd; decide) (cr_bd c1 c2) (by omega)
  have ra' := ra k
  have ru' := ru k
  generalize (Ve.sm (A2 * V2) p').cr (Ve.sm (U2 * B2) q') = C at *
  generalize Ve.sm (A2 * V2) p' = F1 at *
  generalize Ve.sm (U2 * B2) q' = F2 at *
  generalize Ve.sm 1 C = C1 at *
  generalize Ve.sm (-1) C = C2 at *
  generalize p.cr q = N at *
  rcases hh with rfl | rfl | rfl
  · simp [↓runB, ↓runI, ↓startE, ↓startI, ↓sSeq, ↓sRet, ↓sRetN, ↓sIf, ↓sAsg, ↓sDrop, ↓sFail, ↓sNext, ↓sPar2, ↓sPar3, ↓sFor, ↓forLoop, ↓sMe, ↓M.bind, ↓M.pure, ↓M.lift, ↓M.fail, ↓dBi, ↓dLc, ↓lcLoop, ↓dZip, ↓zipD, ↓pairD, ↓dEnumA, ↓enumD, ↓rangeD, ↓dRng, ↓dItems, ↓dCons, ↓dNil, ↓dBin, ↓dBinB, ↓dTup, ↓dLst, ↓dUn, ↓dIf, ↓dAndB, ↓dOrB, ↓dAndV, ↓dOrV, ↓dNotV, ↓D.tru, ↓dNotB, ↓dVal, ↓dIsi, ↓dIsiT, ↓dFld, ↓dCall, ↓dMake, ↓dEq, ↓dEqB, ↓dEqD, ↓dV, ↓dVR, ↓dC, ↓dTrue, ↓dTru, ↓tgTup, ↓tgsCons, ↓tgName, ↓tgsNil, ↓wipeE, ↓bSum, ↓bLen, ↓bAbs, ↓bTup, ↓bLst, ↓bAll, ↓bAny, ↓intsD, ↓boolsD, ↓D.add, ↓D.sub, ↓D.neg, ↓D.ix, ↓atI, ↓ixN, ↓D.mod, ↓D.kl, ↓Kl.sub, ↓Kl.subs, ↓Cn.fields, ↓cLt, ↓cLe, ↓cGe, ↓cGtA, ↓cIs, ↓cIsNot, ↓D.isNon, ↓D.items, ↓rng, ↓okR, ↓lim, ↓eq0, ↓dMeth, ↓dGet1, ↓keyD, ↓sFrz, ↓sOwn, ↓sApp, ↓dDrw0, ↓dDrw1, ↓sInc, ↓dLenS, ↓dIxS, ↓dNeS, ↓dPow, ↓bInt, ↓eqT, F_found_between, S_found_between, l1, l2, al, ra', ru', m1, m2, m3, s1, s2, x1, x2, s3, s4, t1, t2, in_pp, in_pm, byHand]
  · simp [↓runB, ↓runI, ↓startE, ↓startI, ↓sSeq, ↓sRet, ↓sRetN, ↓sIf, ↓sAsg, ↓sDrop, ↓sFail, ↓sNext, ↓sPar2, ↓sPar3, ↓sFor, ↓forLoop, ↓sMe, ↓M.bind, ↓M.pure, ↓M.lift, ↓M.fail, ↓dBi, ↓dLc, ↓lcLoop, ↓dZip, ↓zipD, ↓pairD, ↓dEnumA, ↓enumD, ↓rangeD, ↓dRng, ↓dItems, ↓dCons, ↓dNil, ↓dBin, ↓dBinB, ↓dTup, ↓dLst, ↓dUn, ↓dIf, ↓dAndB, ↓dOrB, ↓dAndV, ↓dOrV, ↓dNotV, ↓D.tru, ↓dNotB, ↓dVal, ↓dIsi, ↓dIsiT, ↓dFld, ↓dCall, ↓dMake, ↓dEq, ↓dEqB, ↓dEqD, ↓dV, ↓dVR, ↓dC, ↓dTrue, ↓dTru, ↓tgTup, ↓tgsCons, ↓tgName, ↓tgsNil, ↓wipeE, ↓bSum, ↓bLen, ↓bAbs, ↓bTup, ↓bLst, ↓bAll, ↓bAny, ↓intsD, ↓boolsD, ↓D.add, ↓D.sub, ↓D.neg, ↓D.ix, ↓atI, ↓ixN, ↓D.mod, ↓D.kl, ↓Kl.sub, ↓Kl.subs, ↓Cn.fields, ↓cLt, ↓cLe, ↓cGe, ↓cGtA, ↓cIs, ↓cIsNot, ↓D.isNon, ↓D.items, ↓rng, ↓okR, ↓lim, ↓eq0, ↓dMeth, ↓dGet1, ↓keyD, ↓sFrz, ↓sOwn, ↓sApp, ↓dDrw0, ↓dDrw1, ↓sInc, ↓dLenS, ↓dIxS, ↓dNeS, ↓dPow, ↓bInt, ↓eqT, F_found_between, S_found_between, l1, l2, al, ra', ru', m1, m2, m3, s1, s2, x1, x2, s3, s4, t1, t2, in_mp, in_mm, byHand, ne_mp]
  · simp [↓runB, ↓runI, ↓startE, ↓startI, ↓sSeq, ↓sRet, ↓sRetN, ↓sIf, ↓sAsg, ↓sDrop, ↓sFail, ↓sNext, ↓sPar2, ↓sPar3, ↓sFor, ↓forLoop, ↓sMe, ↓M.bind, ↓M.pure, ↓M.lift, ↓M.fail, ↓dBi, ↓dLc, ↓lcLoop, ↓dZip, ↓zipD, ↓pairD, ↓dEnumA, ↓enumD, ↓rangeD, ↓dRng, ↓dItems, ↓dCons, ↓dNil, ↓dBin, ↓dBinB, ↓dTup, ↓dLst, ↓dUn, ↓dIf, ↓dAndB, ↓dOrB, ↓dAndV, ↓dOrV, ↓dNotV, ↓D.tru, ↓dNotB, ↓dVal, ↓dIsi, ↓dIsiT, ↓dFld, ↓dCall, ↓dMake, ↓dEq, ↓dEqB, ↓dEqD, ↓dV, ↓dVR, ↓dC, ↓dTrue, ↓dTru, ↓tgTup, ↓tgsCons, ↓tgName, ↓tgsNil, ↓wipeE, ↓bSum, ↓bLen, ↓bAbs, ↓bTup, ↓bLst, ↓bAll, ↓bAny, ↓intsD, ↓boolsD, ↓D.add, ↓D.sub, ↓D.neg, ↓D.ix, ↓atI, ↓ixN, ↓D.mod, ↓D.kl, ↓Kl.sub, ↓Kl.subs, ↓Cn.fields, ↓cLt, ↓cLe, ↓cGe, ↓cGtA, ↓cIs, ↓cIsNot, ↓D.isNon, ↓D.items, ↓rng, ↓okR, ↓lim, ↓eq0, ↓dMeth, ↓dGet1, ↓keyD, ↓sFrz, ↓sOwn, ↓sApp, ↓dDrw0, ↓dDrw1, ↓sInc, ↓dLenS, ↓dIxS, ↓dNeS, ↓dPow, ↓bInt, ↓eqT, F_found_between, S_found_between, l1, l2, al, ra', ru', m1, m2, m3, s1, s2, x1, x2, s3, s4, t1, t2, in_ep, in_em, byHand, ne_ep, ne_em]
theorem betweenB {p q p' q' : Ve} {m m' : M9} {w w' g1 g2 h1 h2 : Int} {n : Nat} {h : Str} (i : Img p q p' q' m w g1 g2) (g : Sg m w 1) (i' : Img p q p' q' m' w' h1 h2) (g' : Sg m' w' (-1)) (hn : (p.cr q).nz)
    (bp : p.Bd n) (bq : q.Bd n) (bp' : p'.Bd n) (bq' : q'.Bd n) (hb : n < 500) (hh : IsHand h) (k : Nat) : F_turns_between [p.D, q.D, p'.D, q'.D, .str h] k = some (.lst (byHand h (TN m w) (TN m' w')), k) := by
  have f := foundB i g i' g' hn bp bq bp' bq' hb hh k
  have hp := cr_nz_l hn
  have hq := cr_nz_r hn
  have hp' := img_nz i.v hp i.p
  have hq' := img_nz i.v hq i.q
  simp [↓runB, ↓runI, ↓startE, ↓startI, ↓sSeq, ↓sRet, ↓sRetN, ↓sIf, ↓sAsg, ↓sDrop, ↓sFail, ↓sNext, ↓sPar2, ↓sPar3, ↓sFor, ↓forLoop, ↓sMe, ↓M.bind, ↓M.pure, ↓M.lift, ↓M.fail, ↓dBi, ↓dLc, ↓lcLoop, ↓dZip, ↓zipD, ↓pairD, ↓dEnumA, ↓enumD, ↓rangeD, ↓dRng, ↓dItems, ↓dCons, ↓dNil, ↓dBin, ↓dBinB, ↓dTup, ↓dLst, ↓dUn, ↓dIf, ↓dAndB, ↓dOrB, ↓dAndV, ↓dOrV, ↓dNotV, ↓D.tru, ↓dNotB, ↓dVal, ↓dIsi, ↓dIsiT, ↓dFld, ↓dCall, ↓dMake, ↓dEq, ↓dEqB, ↓dEqD, ↓dV, ↓dVR, ↓dC, ↓dTrue, ↓dTru, ↓tgTup, ↓tgsCons, ↓tgName, ↓tgsNil, ↓wipeE, ↓bSum, ↓bLen, ↓bAbs, ↓bTup, ↓bLst, ↓bAll, ↓bAny, ↓intsD, ↓boolsD, ↓D.add, ↓D.sub, ↓D.neg, ↓D.ix, ↓atI, ↓ixN, ↓D.mod, ↓D.kl, ↓Kl.sub, ↓Kl.subs, ↓Cn.fields, ↓cLt, ↓cLe, ↓cGe, ↓cGtA, ↓cIs, ↓cIsNot, ↓D.isNon, ↓D.items, ↓rng, ↓okR, ↓lim, ↓eq0, ↓dMeth, ↓dGet1, ↓keyD, ↓sFrz, ↓sOwn, ↓sApp, ↓dDrw0, ↓dDrw1, ↓sInc, ↓dLenS, ↓dIxS, ↓dNeS, ↓dPow, ↓bInt, ↓eqT, F_turns_between, S_turns_between, check_hands_spec hh, check_triple_spec hp, check_triple_spec hq, check_triple_spec hp', check_triple_spec hq', f]
end Sky

end
section
namespace Sky
open PySem PySem.Spec PyProof.Rows L2
-- ### matrices 
theorem m_ext {a b : M9} (h : a.a = b.a ∧ a.b = b.b ∧ a.c = b.c ∧ a.d = b.d ∧ a.e = b.e ∧ a.f = b.f ∧ a.g = b.g ∧ a.h = b.h ∧ a.i = b.i) : a = b := by
  cases a; cases b; simp only at h; simp only [M9.mk.injEq]; exact h
theorem m_assoc (a b c : M9) : (a.mul b).mul c = a.mul (b.mul c) := by
  simp only [M9.mul, M9.mk.injEq]; refine ⟨?_, ?_, ?_, ?_, ?_, ?_, ?_, ?_, ?_⟩ <;> grind
theorem m_scl (a b : M9) (p : Int) : (a.sc p).mul b = (a.mul b).sc p := by
  simp only [M9.mul, M9.sc, M9.mk.injEq]; refine ⟨?_, ?_, ?_, ?_, ?_, ?_, ?_, ?_, ?_⟩ <;> grind
theorem m_scr (a b : M9) (p : Int) : a.mul (b.sc p) = (a.mul b).sc p := by
  simp only [M9.mul, M9.sc, M9.mk.injEq]; refine ⟨?_, ?_, ?_, ?_, ?_, ?_, ?_, ?_, ?_⟩ <;> grind
theorem sc_sc (a : M9) (p q : Int) : (a.sc p).sc q = a.sc (q * p) := by
  simp only [M9.sc, M9.mk.injEq]; refine ⟨?_, ?_, ?_, ?_, ?_, ?_, ?_, ?_, ?_⟩ <;> grind
theorem I_mul (a : M9) : I9.mul a = a := by simp [M9.mul, I9]
theorem mul_I (a : M9) : a.mul I9 = a := by simp [M9.mul, I9]
theorem tr_mul (a b : M9) : (a.mul b).tr = b.tr.mul a.tr := by
  simp only [M9.mul, M9.tr, M9.mk.injEq]; refine ⟨?_, ?_, ?_, ?_, ?_, ?_, ?_, ?_, ?_⟩ <;> grind
theorem tr_tr (a : M9) : a.tr.tr = a := rfl
theorem tr_I : I9.tr = I9 := rfl
theorem tr_J : J9.tr = J9 := rfl
theorem J_J : J9.mul J9 = I9 := by simp [M9.mul, J9, I9]
theorem sc_one (a : M9) : a.sc 1 = a := by simp [M9.sc]
theorem sc_inj {a b : M9} {p : Int} (hp : 0 < p) (h : a.sc p = b.sc p) : a = b := by
  simp only [M9.sc, M9.mk.injEq] at h
  exact m_ext ⟨can_pos hp h.1, can_pos hp h.2.1, can_pos hp h.2.2.1, can_pos hp h.2.2.2.1, can_pos hp h.2.2.2.2.1, can_pos hp h.2.2.2.2.2.1, can_pos hp h.2.2.2.2.2.2.1, can_pos hp h.2.2.2.2.2.2.2.1, can_pos hp h.2.2.2.2.2.2.2.2⟩
theorem Va.mt {m : M9} {w : Int} (v : Va m w) : m.mul m.tr = I9.sc (w * w) := by
  obtain ⟨⟨o1, o2, o3, o4, o5, o6⟩, _, _⟩ := v
  simp only [M9.mul, M9.tr, M9.sc, I9, M9.mk.injEq, Int.mul_one, Int.mul_zero]
  exact ⟨o1, o4, o5, by rw [← o4]; grind, o2, o6, by rw [← o5]; grind, by rw [← o6]; grind, o3⟩
theorem Va.tm {m : M9} {w : Int} (v : Va m w) : m.tr.mul m = I9.sc (w * w) := v.tr.mt
theorem Va.tm2 {m : M9} {w : Int} (v : Va m w) (x : M9) : m.tr.mul (m.mul x) = x.sc (w * w) := by rw [← m_assoc, v.tm, m_scl, I_mul]
theorem Va.mt2 {m : M9} {w : Int} (v : Va m w) (x : M9) : m.mul (m.tr.mul x) = x.sc (w * w) := by rw [← m_assoc, v.mt, m_scl, I_mul]
/-- p after m after p back -/
def M9.cj (m p : M9) : M9 := p.mul (m.mul p.tr)
theorem va_cj {m p : M9} {w u : Int} (v : Va m w) (v' : Va p u) : Va (m.cj p) (u * (w * u)) := v'.mul (v.mul v'.tr)
theorem cj_mul {p : M9} {u : Int} (v : Va p u) (m n : M9) : (m.cj p).mul (n.cj p) = ((m.mul n).cj p).sc (u * u) := by
  simp only [M9.cj, m_assoc, v.tm2, m_scr]
theorem cj_sc (m p : M9) (c : Int) : (m.sc c).cj p = (m.cj p).sc c := by simp only [M9.cj, m_scl, m_scr]
theorem cj_I {p : M9} {u : Int} (v : Va p u) : I9.cj p = I9.sc (u * u) := by simp only [M9.cj, I_mul, v.mt]
theorem cj_inj {p : M9} {u : Int} (v : Va p u) {m n : M9} (h : m.cj p = n.cj p) : m = n := by
  have e : ∀ x : M9, p.tr.mul ((x.cj p).mul p) = x.sc (u * u * (u * u)) := fun x => by
    simp only [M9.cj, m_assoc, v.tm, m_scr, mul_I, v.tm2, sc_sc]
  have h2 : m.sc (u * u * (u * u)) = n.sc (u * u * (u * u)) := by rw [← e m, ← e n, h]
  have uu := Int.mul_pos v.p v.p
  exact sc_inj (Int.mul_pos uu uu) h2
-- ### applying 
theorem on_mul (a b : M9) (p : Ve) : (a.mul b).on p = a.on (b.on p) := by
  simp only [M9.mul, M9.on, Ve.mk.injEq]; refine ⟨?_, ?_, ?_⟩ <;> grind
theorem on_sm (a : M9) (t : Int) (p : Ve) : a.on (Ve.sm t p) = Ve.sm t (a.on p) := by
  simp only [M9.on, Ve.sm, Ve.mk.injEq]; refine ⟨?_, ?_, ?_⟩ <;> grind
theorem sc_on (a : M9) (t : Int) (p : Ve) : (a.sc t).on p = Ve.sm t (a.on p) := by
  simp only [M9.on, M9.sc, Ve.sm, Ve.mk.injEq]; refine ⟨?_, ?_, ?_⟩ <;> grind
theorem I_on (p : Ve) : I9.on p = p := by cases p; simp [I9, M9.on]
theorem Va.tm_on {m : M9} {w : Int} (v : Va m w) (p : Ve) : m.tr.on (m.on p) = Ve.sm (w * w) p := by rw [← on_mul, v.tm, sc_on, I_on]
def Prim (p : Ve) : Prop := g3 p.x p.y p.z = 1
theorem sm_one (p : Ve) : Ve.sm 1 p = p := by cases p; simp [Ve.sm]
theorem prim_eq {p q : Ve} {a b : Int} (ha : 0 < a) (hb : 0 < b) (hp : Prim p) (hq : Prim q) (h : Ve.sm a p = Ve.sm b q) : p = q := by
  have e1 := g3_mul (a := p.x) (b := p.y) (c := p.z) ha
  have e2 := g3_mul (a := q.x) (b := q.y) (c := q.z) hb
  simp only [Ve.sm, Ve.mk.injEq] at h
  unfold Prim at hp hq
  rw [h.1, h.2.1, h.2.2, e2, hp, hq] at e1
  have eab : a = b := by omega
  subst eab
  exact sm_can ha (by simp only [Ve.sm, Ve.mk.injEq]; exact h)
theorem prim_neg {p : Ve} (h : Prim p) : Prim (Ve.sm (-1) p) := by
  unfold Prim at *
  have e : ∀ x : Int, -1 * x = -x := fun x => by omega
  simp only [Ve.sm, e]
  rw [g3_neg, h]
theorem prim_pm {p q : Ve} {a b : Int} (ha : a ≠ 0) (hb : b ≠ 0) (hp : Prim p) (hq : Prim q) (h : Ve.sm a p = Ve.sm b q) : p = q ∨ p = Ve.sm (-1) q := by
  rcases Int.lt_or_lt_of_ne ha with za | za <;> rcases Int.lt_or_lt_of_ne hb with zb | zb
  · refine .inl (prim_eq (a := -a) (b := -b) (by omega) (by omega) hp hq ?_)
    have : ∀ (t : Int) (r : Ve), Ve.sm (-t) r = Ve.sm (-1) (Ve.sm t r) := fun t r => by rw [sm_sm]; congr 1; omega
    rw [this a, this b, h]
  · refine .inr (prim_eq (a := -a) (b := b) (by omega) (by omega) hp (prim_neg hq) ?_)
    have : Ve.sm (-a) p = Ve.sm (-1) (Ve.sm a p) := by rw [sm_sm]; congr 1; omega
    rw [this, h, sm_sm, sm_sm]; congr 1; omega
  · refine .inr (prim_eq (a := a) (b := -b) (by omega) (by omega) hp (prim_neg hq) ?_)
    rw [h, sm_sm]; congr 1; omega
  · exact .inl (prim_eq za zb hp hq h)
theorem apply_ve {m : M9} {w : Int} {p : Ve} {n n' : Nat} {k : Nat} (v : Va m w) (h : Sky.Bd n w) (hp : p.nz) (t : p.Bd n') (hn : n + n' + 2 < 9000) :
    ∃ (q : Ve) (g : Int), (∀ k, F_apply [TN m w, p.D] k = some (q.D, k)) ∧ 0 < g ∧ m.on p = Ve.sm g q ∧ Prim q ∧ q.Bd (n + n' + 2) ∧ q.nz := by
  obtain ⟨x, y, z, g, e, hg, e1, e2, e3, e4, e5, e6⟩ := applyB (k := 0) v h hp t hn
  refine ⟨⟨x, y, z⟩, g, fun k => ?_, hg, ?_, e4, e5, e6⟩
  · obtain ⟨x', y', z', g', f, hg', f1, f2, f3, f4, _⟩ := applyB (k := k) v h hp t hn
    rw [f]
    have : (⟨x', y', z'⟩ : Ve) = ⟨x, y, z⟩ := prim_eq hg' hg f4 e4 (by simp only [Ve.sm, Ve.mk.injEq]; exact ⟨by rw [← f1, e1], by rw [← f2, e2], by rw [← f3, e3]⟩)
    simp only [Ve.mk.injEq] at this
    rw [this.1, this.2.1, this.2.2]
  · simp only [M9.on, Ve.sm, Ve.mk.injEq]; exact ⟨e1, e2, e3⟩
/-- applying, told by the direction -/
theorem apply_is {m : M9} {w a b : Int} {p q : Ve} {n n' : Nat} (v : Va m w) (h : Sky.Bd n w) (hp : p.nz) (t : p.Bd n') (hn : n + n' + 2 < 9000) (ha : 0 < a) (hb : 0 < b) (e : Ve.sm a (m.on p) = Ve.sm b q) (hq : Prim q) (k : Nat) : F_apply [TN m w, p.D] k = some (q.D, k) := by
  obtain ⟨q', g, f, hg, e1, e2, _⟩ := apply_ve (k := k) v h hp t hn
  rw [e1, sm_sm] at e
  have := prim_eq (Int.mul_pos ha hg) hb e2 hq e
  rw [f, this]
theorem opp_prim {p : Ve} {n : Nat} (hp : p.nz) (h : Prim p) (t : p.Bd n) (hn : n < 9000) (k : Nat) : F_opposite [p.D] k = some ((Ve.sm (-1) p).D, k) := by
  have o := oppB (k := k) hp t hn
  unfold Prim at h
  rw [h] at o
  rw [o]
  have e : ∀ x : Int, -1 * x = -x := fun x => by omega
  simp [Ve.sm, Ve.D, v3, e]
-- ### calls of turns, told by matrices 
theorem TN_I {w : Int} (h : 0 < w) : TN (I9.sc w) w = tnD I9 1 := by
  have := TN_sc (m := I9) (w := 1) h
  rw [Int.mul_one] at this
  rw [this]
  exact low_one.TN
theorem TN_I1 : TN I9 1 = tnD I9 1 := low_one.TN
theorem TN_J1 : TN J9 1 = tnD J9 1 := low_one.TN
theorem noT {k : Nat} : F_no_turn [] k = some (TN I9 1, k) := by rw [TN_I1]; exact no_turn_spec
theorem mirT {k : Nat} : F_mirror [] k = some (TN J9 1, k) := by rw [TN_J1]; exact mirror_spec
/-- one turn, then back and forth: seen from another -/
theorem cj_call {m p : M9} {w u : Int} {n n' : Nat} (v : Va m w) (v' : Va p u) (h : Sky.Bd n w) (h' : Sky.Bd n' u) (hn : n + n' + n' < 9000) (k : Nat) : F_back [TN p u] k = some (TN p.tr u, k) ∧ F_then [TN p.tr u, TN m w] k = some (TN (m.mul p.tr) (w * u), k) ∧ F_then [TN (m.mul p.tr) (w * u), TN p u] k = some (TN (m.cj p) (u * (w * u)), k) :=
  ⟨backB v' h' (by omega), thenB v'.tr v h' h (by omega), thenB (v.mul v'.tr) v' (h.mul h') h' (by omega)⟩
end Sky

end
section
namespace Sky
open PySem PySem.Spec PyProof.Rows L2
-- ### how often, by matrices 
def ordA (m : M9) (w : Int) : M9 → Int → List Int → Option Int
  | _, _, [] => none
  | n, u, i :: L => if n = I9.sc u then some i else ordA m w (m.mul n) (w * u) L
def optD : Option Int → D
  | some i => .int i
  | none => .non
theorem isI {n : M9} {u : Int} {k : Nat} {f : Sem} {ρ : Env} (v : Va n u) (hf : f ρ k = some (TN n u, k)) : dEqB eqT false f (dCall 0 F_no_turn dNil) ρ k = some (decide (n = I9.sc u), k) := by
  obtain ⟨n', u', g, e, hg, hn, hu, hv, hl⟩ := TN_get v
  rw [e] at hf
  have c : dCall 0 F_no_turn dNil ρ k = some (tnD I9 1, k) := by
    have h := no_turn_spec (k := k)
    simp only [dCall, M.bind, dNil, List.length_nil, Nat.beq, h]
  have eq := turn_eq_spec (m := n') (n := I9) (w := u') (u := 1) (k := k)
  have : decide (n = I9.sc u) = decide (n' = I9 ∧ u' = 1) := by
    rw [decide_eq_decide]
    have t := TN_inj v va_I9
    rw [sc_one] at t
    rw [← t, e, TN_I1]
    exact ⟨tnD_inj, fun h => by rw [h.1, h.2]⟩
  rw [this]
  simp only [dEqB, dEq, M.bind, hf, c, dEqD, eqT, eq, D.kl, M.pure, Bool.false_xor]
theorem ord_fl {m : M9} {w : Int} (v : Va m w) {b : Nat} (hw : Sky.Bd b w) {k : Nat} {sm : Slot} : ∀ (L : List Int) (n : M9) (u : Int) (c : Nat) (s : Slot), Va n u → Sky.Bd c u → c + b * L.length + b < 9000 →
    match ordA m w n u L with
    | some i => forLoop (tgName 3) (sSeq (sIf (dEqB eqT false (dV 2) (dCall 0 F_no_turn dNil)) (sSeq (sRet (dV 3)) (sNext)) (sNext)) (sSeq (sAsg (dCall 2 F_then (dCons (dV 2) (dCons (dV 0) (dNil)))) (tgName 2)) (sNext))) (L.map D.int) [.val (TN m w), sm, .val (TN n u), s] k = some (.ret (.int i), k)
    | none => ∃ ρ, forLoop (tgName 3) (sSeq (sIf (dEqB eqT false (dV 2) (dCall 0 F_no_turn dNil)) (sSeq (sRet (dV 3)) (sNext)) (sNext)) (sSeq (sAsg (dCall 2 F_then (dCons (dV 2) (dCons (dV 0) (dNil)))) (tgName 2)) (sNext))) (L.map D.int) [.val (TN m w), sm, .val (TN n u), s] k = some (.nx ρ, k) := by
  intro L
  induction L with
  | nil => intro n u c s _ _ _; exact ⟨_, rfl⟩
  | cons i L ih =>
    intro n u c s vn hc hl
    simp only [List.length_cons] at hl
    have hl' : c + (b * L.length + b) + b < 9000 := by rw [← Nat.mul_succ]; exact hl
    have t := isI (k := k) (f := dV 2) (ρ := [.val (TN m w), sm, .val (TN n u), .val (.int i)]) vn rfl
    simp only [ordA]
    by_cases q : n = I9.sc u
    · rw [if_pos q]
      rw [decide_eq_true q] at t
      simp [forLoop, List.map, put_name, M.bind, sSeq, sIf, t, sRet, dV, M.pure]
    · rw [if_neg q]
      rw [decide_eq_false q] at t
      have th := thenB (k := k) vn v hc hw (by omega)
      have r := ih (m.mul n) (w * u) (b + c) (.val (.int i)) (v.mul vn) (hw.mul hc) (by omega)
      have step : forLoop (tgName 3) (sSeq (sIf (dEqB eqT false (dV 2) (dCall 0 F_no_turn dNil)) (sSeq (sRet (dV 3)) (sNext)) (sNext)) (sSeq (sAsg (dCall 2 F_then (dCons (dV 2) (dCons (dV 0) (dNil)))) (tgName 2)) (sNext))) ((i :: L).map D.int) [.val (TN m w), sm, .val (TN n u), s] k =
          forLoop (tgName 3) (sSeq (sIf (dEqB eqT false (dV 2) (dCall 0 F_no_turn dNil)) (sSeq (sRet (dV 3)) (sNext)) (sNext)) (sSeq (sAsg (dCall 2 F_then (dCons (dV 2) (dCons (dV 0) (dNil)))) (tgName 2)) (sNext))) (L.map D.int) [.val (TN m w), sm, .val (TN (m.mul n) (w * u)), .val (.int i)] k := by
        rw [List.map_cons]
        conv => lhs; unfold forLoop
        simp [put_name, M.bind, sSeq, sIf, t, sAsg, dCall, dCons, dV, dNil, M.pure, th, sNext]
      rw [step]
      exact r
theorem hrs_fl {m : M9} {w : Int} (v : Va m w) {b : Nat} (hw : Sky.Bd b w) {k : Nat} : ∀ (L : List Int) (n : M9) (u : Int) (c : Nat) (s : Slot), Va n u → Sky.Bd c u → c + b * L.length + b < 9000 →
    match ordA m w n u L with
    | some i => forLoop (tgName 2) (sSeq (sIf (dEqB eqT false (dV 1) (dCall 0 F_no_turn dNil)) (sSeq (sRet (dV 2)) (sNext)) (sNext)) (sSeq (sAsg (dCall 2 F_then (dCons (dV 1) (dCons (dV 0) (dNil)))) (tgName 1)) (sNext))) (L.map D.int) [.val (TN m w), .val (TN n u), s] k = some (.ret (.int i), k)
    | none => ∃ ρ, forLoop (tgName 2) (sSeq (sIf (dEqB eqT false (dV 1) (dCall 0 F_no_turn dNil)) (sSeq (sRet (dV 2)) (sNext)) (sNext)) (sSeq (sAsg (dCall 2 F_then (dCons (dV 1) (dCons (dV 0) (dNil)))) (tgName 1)) (sNext))) (L.map D.int) [.val (TN m w), .val (TN n u), s] k = some (.nx ρ, k) := by
  intro L
  induction L with
  | nil => intro n u c s _ _ _; exact ⟨_, rfl⟩
  | cons i L ih =>
    intro n u c s vn hc hl
    simp only [List.length_cons] at hl
    have hl' : c + (b * L.length + b) + b < 9000 := by rw [← Nat.mul_succ]; exact hl
    have t := isI (k := k) (f := dV 1) (ρ := [.val (TN m w), .val (TN n u), .val (.int i)]) vn rfl
    simp only [ordA]
    by_cases q : n = I9.sc u
    · rw [if_pos q]
      rw [decide_eq_true q] at t
      simp [forLoop, List.map, put_name, M.bind, sSeq, sIf, t, sRet, dV, M.pure]
    · rw [if_neg q]
      rw [decide_eq_false q] at t
      have th := thenB (k := k) vn v hc hw (by omega)
      have r := ih (m.mul n) (w * u) (b + c) (.val (.int i)) (v.mul vn) (hw.mul hc) (by omega)
      have step : forLoop (tgName 2) (sSeq (sIf (dEqB eqT false (dV 1) (dCall 0 F_no_turn dNil)) (sSeq (sRet (dV 2)) (sNext)) (sNext)) (sSeq (sAsg (dCall 2 F_then (dCons (dV 1) (dCons (dV 0) (dNil)))) (tgName 1)) (sNext))) ((i :: L).map D.int) [.val (TN m w), .val (TN n u), s] k =
          forLoop (tgName 2) (sSeq (sIf (dEqB eqT false (dV 1) (dCall 0 F_no_turn dNil)) (sSeq (sRet (dV 2)) (sNext)) (sNext)) (sSeq (sAsg (dCall 2 F_then (dCons (dV 1) (dCons (dV 0) (dNil)))) (tgName 1)) (sNext))) (L.map D.int) [.val (TN m w), .val (TN (m.mul n) (w * u)), .val (.int i)] k := by
        rw [List.map_cons]
        conv => lhs; unfold forLoop
        simp [put_name, M.bind, sSeq, sIf, t, sAsg, dCall, dCons, dV, dNil, M.pure, th, sNext]
      rw [step]
      exact r
def upTo (n : Nat) : List Int := (List.range n).map fun i : Nat => (1 : Int) + (i : Int)
theorem range_up (n : Nat) : rangeD 1 n = (upTo n).map D.int := by unfold rangeD upTo; rw [List.map_map]; rfl
theorem upTo_len (n : Nat) : (upTo n).length = n := by simp [upTo]
theorem seq_ret {f g : SemS} {ρ : Env} {k k' : Nat} {d : D} (h : f ρ k = some (.ret d, k')) : sSeq f g ρ k = some (.ret d, k') := by simp only [sSeq, M.bind, h, M.pure]
theorem drop_ok {f : Sem} {ρ : Env} {k k' : Nat} {d : D} (h : f ρ k = some (d, k')) : sDrop f ρ k = some (.nx ρ, k') := by simp only [sDrop, M.bind, h, M.pure]
theorem asg_ok {f : Sem} {ρ : Env} {i k k' : Nat} {d : D} (h : f ρ k = some (d, k')) : sAsg f (tgName i) ρ k = some (.nx (ρ.set i (.val d)), k') := by simp only [sAsg, M.bind, h, M.pure, put_name]
theorem for_ok {it : SemL} {t : Tg} {b : SemS} {ρ : Env} {k k' : Nat} {ds : List D} (h : it ρ k = some (ds, k')) : sFor it t b ρ k = forLoop t b ds ρ k' := by simp only [sFor, M.bind, h]
theorem ret_ok {f : Sem} {ρ : Env} {k k' : Nat} {d : D} (h : f ρ k = some (d, k')) : sRet f ρ k = some (.ret d, k') := by simp only [sRet, M.bind, h, M.pure]
theorem c1_ok {F : Fn} {f : Sem} {ρ : Env} {k k1 k2 : Nat} {d e : D} (h : f ρ k = some (d, k1)) (h2 : F [d] k1 = some (e, k2)) : dCall 1 F (dCons f dNil) ρ k = some (e, k2) := by simp only [dCall, dCons, dNil, M.bind, M.pure, h, h2, List.length_cons, List.length_nil, Nat.beq, Nat.zero_add]
theorem c2_ok {F : Fn} {f g : Sem} {ρ : Env} {k k1 k2 k3 : Nat} {d e r : D} (h : f ρ k = some (d, k1)) (h1 : g ρ k1 = some (e, k2)) (h2 : F [d, e] k2 = some (r, k3)) : dCall 2 F (dCons f (dCons g dNil)) ρ k = some (r, k3) := by
  simp only [dCall, dCons, dNil, M.bind, M.pure, h, h1, h2, List.length_cons, List.length_nil, Nat.beq, Nat.zero_add, Nat.reduceAdd]
theorem runB_ret {n : Nat} {B : SemS} {ds : List D} {k k' : Nat} {d : D} (h : B (startE n ds) k = some (.ret d, k')) : runB n B ds k = some (d, k') := by simp only [runB, h]
theorem check_num {x : Str} {j lo hi : Int} {k : Nat} (h1 : lo ≤ j) (h2 : j ≤ hi) : F_check_number [.str x, .int j, .int lo, .int hi] k = some (.non, k) := by
  simp [↓runB, ↓runI, ↓startE, ↓startI, ↓sSeq, ↓sRet, ↓sRetN, ↓sIf, ↓sAsg, ↓sDrop, ↓sFail, ↓sNext, ↓sPar2, ↓sPar3, ↓sFor, ↓forLoop, ↓sMe, ↓M.bind, ↓M.pure, ↓M.lift, ↓M.fail, ↓dBi, ↓dLc, ↓lcLoop, ↓dZip, ↓zipD, ↓pairD, ↓dEnumA, ↓enumD, ↓rangeD, ↓dRng, ↓dItems, ↓dCons, ↓dNil, ↓dBin, ↓dBinB, ↓dTup, ↓dLst, ↓dUn, ↓dIf, ↓dAndB, ↓dOrB, ↓dAndV, ↓dOrV, ↓dNotV, ↓D.tru, ↓dNotB, ↓dVal, ↓dIsi, ↓dIsiT, ↓dFld, ↓dCall, ↓dMake, ↓dEq, ↓dEqB, ↓dEqD, ↓dV, ↓dVR, ↓dC, ↓dTrue, ↓dTru, ↓tgTup, ↓tgsCons, ↓tgName, ↓tgsNil, ↓wipeE, ↓bSum, ↓bLen, ↓bAbs, ↓bTup, ↓bLst, ↓bAll, ↓bAny, ↓intsD, ↓boolsD, ↓D.add, ↓D.sub, ↓D.neg, ↓D.ix, ↓atI, ↓ixN, ↓D.mod, ↓D.kl, ↓Kl.sub, ↓Kl.subs, ↓Cn.fields, ↓cLt, ↓cLe, ↓cGe, ↓cGtA, ↓cIs, ↓cIsNot, ↓D.isNon, ↓D.items, ↓rng, ↓okR, ↓lim, ↓eq0, ↓dMeth, ↓dGet1, ↓keyD, ↓sFrz, ↓sOwn, ↓sApp, ↓dDrw0, ↓dDrw1, ↓sInc, ↓dLenS, ↓dIxS, ↓dNeS, ↓dPow, ↓bInt, ↓eqT, F_check_number, S_check_number, F_is_number, S_is_number, dChain, h1, h2]
theorem check_TN {m : M9} {w : Int} {k : Nat} : F_check_turn [TN m w] k = some (.non, k) := check_turn_spec
theorem lift_ok {α : Type} {o : Option α} {a : α} {k : Nat} (h : o = some a) : M.lift o k = some (a, k) := by subst h; rfl
theorem dRng_ok {f : SemL} {ρ : Env} {k k' : Nat} {xs ds : List D} (h : f ρ k = some (xs, k')) (hr : rng xs = some ds) : dRng f ρ k = some (ds, k') := by
  unfold dRng M.bind
  rw [h]
  exact lift_ok hr
theorem cons2_ok {f g : Sem} {ρ : Env} {k k1 k2 : Nat} {d e : D} (h1 : f ρ k = some (d, k1)) (h2 : g ρ k1 = some (e, k2)) : dCons f (dCons g dNil) ρ k = some ([d, e], k2) := by
  simp only [dCons, dNil, M.bind, M.pure, h1, h2]
theorem okj {j : Nat} (hj : j ≤ 99) : okR ((j : Int) + 1) = true := by
  have e : (2 : Int) ^ 62 = 4611686018427387904 := rfl
  unfold okR
  rw [Bool.and_eq_true_iff, e]
  exact ⟨decide_eq_true (by omega), decide_eq_true (by omega)⟩
theorem rng_j {j : Nat} (hj : j ≤ 99) : rng [.int 1, .int ((j : Int) + 1)] = some ((upTo j).map D.int) := by
  have o1 : okR 1 = true := rfl
  have en : ((j : Int) + 1 - 1).toNat = j := by omega
  show (if okR 1 && okR ((j : Int) + 1) then some (rangeD 1 ((j : Int) + 1 - 1).toNat) else none) = _
  rw [o1, okj hj, en, range_up]
  rfl
theorem rng_up {f g : Sem} {ρ : Env} {k : Nat} {j : Nat} (hj : j ≤ 99) (h1 : f ρ k = some (.int 1, k)) (h2 : g ρ k = some (.int ((j : Int) + 1), k)) : dRng (dCons f (dCons g dNil)) ρ k = some ((upTo j).map D.int, k) := dRng_ok (cons2_ok h1 h2) (rng_j hj)
theorem orderB {m : M9} {w : Int} {b j : Nat} (v : Va m w) (hw : Sky.Bd b w) (hb : b * j + 2 * b < 9000) (hj : j ≤ 99) (k : Nat) : F_order_of [TN m w, .int j] k = some (optD (ordA m w m w (upTo j)), k) := by
  have l := ord_fl v hw (k := k) (sm := .val (.int j)) (upTo j) m w b .no v hw (by rw [upTo_len]; omega)
  refine runB_ret ?_
  show S_order_of [.val (TN m w), .val (.int j), .no, .no] k = _
  unfold S_order_of
  have s1 : sDrop (dCall 1 F_check_turn (dCons (dV 0) (dNil))) [.val (TN m w), .val (.int j), .no, .no] k = _ := drop_ok (c1_ok rfl check_TN)
  have cn : dCall 4 F_check_number (dCons (dC (.str "most")) (dCons (dV 1) (dCons (dC (.int 0)) (dCons (dC (.int 999)) (dNil))))) [.val (TN m w), .val (.int j), .no, .no] k = some (.non, k) := by
    have := check_num (x := "most") (j := j) (lo := 0) (hi := 999) (k := k) (by omega) (by omega)
    simp only [dCall, dCons, dNil, dC, dV, M.bind, M.pure, List.getElem?_cons_zero, List.getElem?_cons_succ, List.length_cons, List.length_nil, Nat.beq, Nat.zero_add, Nat.reduceAdd, this]
  have s3 : sAsg (dV 0) (tgName 2) [.val (TN m w), .val (.int j), .no, .no] k = some (.nx [.val (TN m w), .val (.int j), .val (TN m w), .no], k) := asg_ok rfl
  have it : dRng (dCons (dC (.int 1)) (dCons (dBin D.add (dV 1) (dC (.int 1))) dNil)) [.val (TN m w), .val (.int j), .val (TN m w), .no] k = _ := rng_up hj rfl rfl
  rw [seq_nx s1, seq_nx (drop_ok cn), seq_nx s3]
  cases h : ordA m w m w (upTo j) with
  | some i =>
    rw [h] at l
    exact seq_ret ((for_ok it).trans l)
  | none =>
    rw [h] at l
    obtain ⟨ρ, l⟩ := l
    rw [seq_nx ((for_ok it).trans l)]
    rfl
theorem hoursB {m : M9} {w : Int} {b : Nat} (v : Va m w) (hw : Sky.Bd b w) (hb : b * 99 + 2 * b < 9000) (k : Nat) : F_hours_of_day [TN m w] k = some (optD (ordA m w m w (upTo 99)), k) := by
  have l := hrs_fl v hw (k := k) (upTo 99) m w b .no v hw (by rw [upTo_len]; omega)
  refine runB_ret ?_
  show S_hours_of_day [.val (TN m w), .no, .no] k = _
  unfold S_hours_of_day
  have s1 : sDrop (dCall 1 F_check_turn (dCons (dV 0) (dNil))) [.val (TN m w), .no, .no] k = _ := drop_ok (c1_ok rfl check_TN)
  have s3 : sAsg (dV 0) (tgName 1) [.val (TN m w), .no, .no] k = some (.nx [.val (TN m w), .val (TN m w), .no], k) := asg_ok rfl
  have it : dRng (dCons (dC (.int 1)) (dCons (dBin D.add (dC (.int 99)) (dC (.int 1))) dNil)) [.val (TN m w), .val (TN m w), .no] k = _ := rng_up (j := 99) (by decide) rfl rfl
  rw [seq_nx s1, seq_nx s3]
  generalize upTo 99 = U at *
  cases h : ordA m w m w U with
  | some i =>
    rw [h] at l
    exact seq_ret ((for_ok it).trans l)
  | none =>
    rw [h] at l
    obtain ⟨ρ, l⟩ := l
    rw [seq_nx ((for_ok it).trans l)]
    rfl
/-- seen from another turn it is done as often -/
theorem ordA_cj {m p : M9} {w u : Int} (v : Va m w) (vp : Va p u) : ∀ (L : List Int) (n n2 : M9) (x y : Int), 0 < x → 0 < y → (n.cj p).sc y = n2.sc (u * (x * u)) → ordA (m.cj p) (u * (w * u)) n2 y L = ordA m w n x L := by
  intro L
  induction L with
  | nil => intros; rfl
  | cons i L ih =>
    intro n n2 x y hx hy h
    simp only [ordA]
    have uu := Int.mul_pos vp.p vp.p
    have hux : 0 < u * (x * u) := Int.mul_pos vp.p (Int.mul_pos hx vp.p)
    have key : n2 = I9.sc y ↔ n = I9.sc x := by
      constructor
      · intro e
        subst e
        rw [sc_sc] at h
        have : (n.cj p).sc y = ((I9.sc x).cj p).sc y := by rw [h, cj_sc, cj_I vp, sc_sc, sc_sc]; congr 1; grind
        exact cj_inj vp (sc_inj hy this)
      · intro e
        subst e
        rw [cj_sc, cj_I vp, sc_sc, sc_sc] at h
        refine sc_inj hux ?_
        rw [← h, sc_sc]; congr 1; grind
    by_cases q : n = I9.sc x
    · rw [if_pos q, if_pos (key.mpr q)]
    · rw [if_neg q, if_neg (fun z => q (key.mp z))]
      refine ih _ _ _ _ (Int.mul_pos v.p hx) (Int.mul_pos (Int.mul_pos vp.p (Int.mul_pos v.p vp.p)) hy) ?_
      have e1 : ((m.mul n).cj p).sc (u * u) = (m.cj p).mul (n.cj p) := (cj_mul vp m n).symm
      refine sc_inj uu ?_
      have e2 : (((m.mul n).cj p).sc (u * (w * u) * y)).sc (u * u) = ((m.cj p).mul ((n.cj p).sc y)).sc (u * (w * u)) := by
        rw [m_scr, ← e1, sc_sc, sc_sc, sc_sc]; congr 1; grind
      rw [e2, h, m_scr, sc_sc, sc_sc]; congr 1; grind
theorem ordA_cj0 {m p : M9} {w u : Int} (v : Va m w) (vp : Va p u) (L : List Int) : ordA (m.cj p) (u * (w * u)) (m.cj p) (u * (w * u)) L = ordA m w m w L :=
  ordA_cj v vp L m (m.cj p) w _ v.p (va_cj v vp).p rfl
end Sky

end
section
namespace Sky
open PySem PySem.Spec PyProof.Rows L2
-- ### steps 
theorem dv {ρ : Env} {i : Nat} {d : D} (h : ρ[i]? = some (.val d)) (k : Nat) : dV i ρ k = some (d, k) := by simp only [dV, h]
theorem c0_ok {F : Fn} {ρ : Env} {k k' : Nat} {e : D} (h : F [] k = some (e, k')) : dCall 0 F dNil ρ k = some (e, k') := by simp only [dCall, dNil, M.bind, List.length_nil, Nat.beq, h]
theorem c5_ok {F : Fn} {f1 f2 f3 f4 f5 : Sem} {ρ : Env} {k k' : Nat} {d1 d2 d3 d4 d5 r : D} (h1 : f1 ρ k = some (d1, k)) (h2 : f2 ρ k = some (d2, k)) (h3 : f3 ρ k = some (d3, k)) (h4 : f4 ρ k = some (d4, k)) (h5 : f5 ρ k = some (d5, k)) (h : F [d1, d2, d3, d4, d5] k = some (r, k')) :
    dCall 5 F (dCons f1 (dCons f2 (dCons f3 (dCons f4 (dCons f5 dNil))))) ρ k = some (r, k') := by
  simp only [dCall, dCons, dNil, M.bind, M.pure, h1, h2, h3, h4, h5, List.length_cons, List.length_nil, Nat.beq, Nat.zero_add, Nat.reduceAdd, h]
theorem sif_f {c : SemB} {f g : SemS} {ρ : Env} {k k' : Nat} (h : c ρ k = some (false, k')) : sIf c f g ρ k = g ρ k' := by simp only [sIf, M.bind, h]
theorem sif_t {c : SemB} {f g : SemS} {ρ : Env} {k k' : Nat} (h : c ρ k = some (true, k')) : sIf c f g ρ k = f ρ k' := by simp only [sIf, M.bind, h]
theorem or_f {f g : SemB} {ρ : Env} {k k1 k2 : Nat} {b : Bool} (hf : f ρ k = some (false, k1)) (hg : g ρ k1 = some (b, k2)) : dOrB f g ρ k = some (b, k2) := by simp only [dOrB, M.bind, hf, hg]
theorem or_t {f g : SemB} {ρ : Env} {k k1 : Nat} (hf : f ρ k = some (true, k1)) : dOrB f g ρ k = some (true, k1) := by simp only [dOrB, M.bind, hf, M.pure]
theorem and_f {f g : SemB} {ρ : Env} {k k1 : Nat} (hf : f ρ k = some (false, k1)) : dAndB f g ρ k = some (false, k1) := by simp only [dAndB, M.bind, hf, M.pure]
theorem and_t {f g : SemB} {ρ : Env} {k k1 k2 : Nat} {b : Bool} (hf : f ρ k = some (true, k1)) (hg : g ρ k1 = some (b, k2)) : dAndB f g ρ k = some (b, k2) := by simp only [dAndB, M.bind, hf, hg]
theorem not_ok {f : SemB} {ρ : Env} {k k' : Nat} {b : Bool} (h : f ρ k = some (b, k')) : dNotB f ρ k = some (!b, k') := by simp only [dNotB, M.bind, h, M.pure]
theorem tru_ok {f : Sem} {ρ : Env} {k k' : Nat} {b : Bool} (h : f ρ k = some (.bl b, k')) : dTru f ρ k = some (b, k') := by simp only [dTru, M.bind, h, D.tru, M.lift]
theorem gs {ρ : Env} {i j : Nat} {s : Slot} (h : i ≠ j) : (ρ.set i s)[j]? = ρ[j]? := List.getElem?_set_ne h
/-- == and != of plain data, by what cEqP tells -/
theorem eqB_ok {f g : Sem} {neg : Bool} {ρ : Env} {k k1 k2 : Nat} {d e : D} {b : Bool} (hd : ∀ c fs, d ≠ .ins c fs) (h : f ρ k = some (d, k1)) (h1 : g ρ k1 = some (e, k2)) (c : cEqP d e = some b) : dEqB eqT neg f g ρ k = some (xor neg b, k2) := by
  have : dEqD eqT neg d e = M.lift (((cEqP d e).map (xor neg)).map D.bl) := by
    cases d <;> first | rfl | exact absurd rfl (hd _ _)
  simp only [dEqB, dEq, M.bind, h, h1, this, c, Option.map, M.lift, M.pure]
theorem ne_not {f g : Sem} {ρ : Env} {k k1 k2 : Nat} {d : D} (hd : ∀ c fs, d ≠ .ins c fs) (h : f ρ k = some (d, k1)) (h1 : g ρ k1 = some (d, k2)) (c : cEqP d d = some true) : dEqB eqT true f g ρ k = some (false, k2) := eqB_ok hd h h1 c
theorem eq_ve (p q : Ve) : cEqP p.D q.D = some (decide (p = q)) := by
  rw [eq_v3]; congr 1; cases p; cases q; simp
theorem eq_ve_self (p : Ve) : cEqP p.D p.D = some true := by rw [eq_ve]; simp
theorem ne_ve {f g : Sem} {ρ : Env} {k k1 k2 : Nat} {p : Ve} (h : f ρ k = some (p.D, k1)) (h1 : g ρ k1 = some (p.D, k2)) : dEqB eqT true f g ρ k = some (false, k2) := ne_not (fun _ _ z => by cases z) h h1 (eq_ve_self p)
theorem eq_opt (o : Option Int) : cEqP (optD o) (optD o) = some true := by
  cases o with
  | none => exact eq_non_non0
  | some i => rw [optD, eq_int]; simp
where
  eq_non_non0 : cEqP .non .non = some true := by decide +kernel
theorem ne_opt {f g : Sem} {ρ : Env} {k k1 k2 : Nat} {o : Option Int} (h : f ρ k = some (optD o, k1)) (h1 : g ρ k1 = some (optD o, k2)) : dEqB eqT true f g ρ k = some (false, k2) := ne_not (fun _ _ z => by cases o <;> cases z) h h1 (eq_opt o)
theorem ne_bl {f g : Sem} {ρ : Env} {k k1 k2 : Nat} {b : Bool} (h : f ρ k = some (.bl b, k1)) (h1 : g ρ k1 = some (.bl b, k2)) : dEqB eqT true f g ρ k = some (false, k2) := ne_not (fun _ _ z => by cases z) h h1 (by cases b <;> decide +kernel)
/-- == and != of turns -/
theorem turn_ne {f g : Sem} {neg : Bool} {ρ : Env} {k k1 k2 : Nat} {m n : M9} {w u : Int} (h : f ρ k = some (TN m w, k1)) (h1 : g ρ k1 = some (TN n u, k2)) (v : Va m w) (v2 : Va n u) : dEqB eqT neg f g ρ k = some (xor neg (decide (m.sc u = n.sc w)), k2) := by
  have e := eqB (k := k2) v v2
  have : dEqD eqT neg (TN m w) (TN n u) k2 = some (.bl (xor neg (decide (m.sc u = n.sc w))), k2) := by
    unfold TN at e ⊢
    simp only [dEqD, eqT, e, D.kl, M.bind, M.pure]
  simp only [dEqB, dEq, M.bind, h, h1, this, M.pure]
theorem turn_neV {f g : Sem} {neg : Bool} {ρ : Env} {k k1 k2 : Nat} {m n : M9} {w u : Int} (h : f ρ k = some (TN m w, k1)) (h1 : g ρ k1 = some (TN n u, k2)) (v : Va m w) (v2 : Va n u) : dEq eqT neg f g ρ k = some (.bl (xor neg (decide (m.sc u = n.sc w))), k2) := by
  have e := eqB (k := k2) v v2
  have : dEqD eqT neg (TN m w) (TN n u) k2 = some (.bl (xor neg (decide (m.sc u = n.sc w))), k2) := by
    unfold TN at e ⊢
    simp only [dEqD, eqT, e, D.kl, M.bind, M.pure]
  simp only [dEq, M.bind, h, h1, this]
theorem turn_same {f g : Sem} {ρ : Env} {k k1 k2 : Nat} {m n : M9} {w u : Int} (h : f ρ k = some (TN m w, k1)) (h1 : g ρ k1 = some (TN n u, k2)) (v : Va m w) (v2 : Va n u) (e : m.sc u = n.sc w) : dEqB eqT true f g ρ k = some (false, k2) := by
  rw [turn_ne h h1 v v2, decide_eq_true e]; rfl
-- ### whole numbers of turns 
structure Qn where
  a : Int
  b : Int
  c : Int
  d : Int
abbrev Qn.R (q : Qn) : M9 := Rq q.a q.b q.c q.d
abbrev Qn.N (q : Qn) : Int := Nq q.a q.b q.c q.d
abbrev Qn.D (q : Qn) : D := .tup [.int q.a, .int q.b, .int q.c, .int q.d]
def Qn.v (q : Qn) : Ve := ⟨q.b, q.c, q.d⟩
def Qn.nz (q : Qn) : Prop := ¬ (q.a = 0 ∧ q.b = 0 ∧ q.c = 0 ∧ q.d = 0)
def Qn.mul (p q : Qn) : Qn := ⟨p.a * q.a - p.b * q.b - p.c * q.c - p.d * q.d, p.a * q.b + p.b * q.a + p.c * q.d - p.d * q.c, p.a * q.c - p.b * q.d + p.c * q.a + p.d * q.b, p.a * q.d + p.b * q.c - p.c * q.b + p.d * q.a⟩
def Qn.bar (q : Qn) : Qn := ⟨q.a, -q.b, -q.c, -q.d⟩
theorem Qn.R_mul (p q : Qn) : p.R.mul q.R = (p.mul q).R := Rq_mul ..
theorem Qn.N_mul (p q : Qn) : (p.mul q).N = p.N * q.N := Nq_mul ..
theorem Qn.R_bar (q : Qn) : q.bar.R = q.R.tr := by
  simp only [Qn.bar, Qn.R, Rq, M9.tr, M9.mk.injEq]; refine ⟨?_, ?_, ?_, ?_, ?_, ?_, ?_, ?_, ?_⟩ <;> grind
theorem Qn.N_bar (q : Qn) : q.bar.N = q.N := by simp only [Qn.bar, Qn.N, Nq]; grind
theorem Qn.va {q : Qn} (h : q.nz) : Va q.R q.N := va_Rq h
theorem Qn.nz_of {q : Qn} (h : 0 < q.N) : q.nz := Nq_ne h
theorem Qn.pos {q : Qn} (h : q.nz) : 0 < q.N := Nq_pos h
theorem Qn.sg {q : Qn} : Sg q.R q.N 1 := ⟨.inl rfl, by rw [dt_Rq, Int.one_mul]⟩
def Qn.cj (q p : Qn) : Qn := p.mul (q.mul p.bar)
theorem Qn.R_cj (q p : Qn) : (q.cj p).R = q.R.cj p.R := by
  unfold Qn.cj M9.cj; rw [← Qn.R_mul, ← Qn.R_mul, Qn.R_bar]
theorem Qn.N_cj (q p : Qn) : (q.cj p).N = p.N * (q.N * p.N) := by
  unfold Qn.cj; rw [Qn.N_mul, Qn.N_mul, Qn.N_bar]
theorem Qn.v_cj (q p : Qn) : (q.cj p).v = p.R.on q.v := by
  simp only [Qn.cj, Qn.mul, Qn.bar, Qn.v, Qn.R, Rq, M9.on, Ve.mk.injEq]; refine ⟨?_, ?_, ?_⟩ <;> grind
theorem nz_cj {q p : Qn} (hq : q.nz) (hp : p.nz) : (q.cj p).nz := Qn.nz_of (by rw [Qn.N_cj]; exact Int.mul_pos (Qn.pos hp) (Int.mul_pos (Qn.pos hq) (Qn.pos hp)))
/-- the axis by the numbers -/
theorem axisQ {q : Qn} (h : q.nz) (hN : q.N < 1048576) (k : Nat) : (¬ q.v.nz → F_axis_of [TN q.R q.N] k = some (.non, k)) ∧ (q.v.nz → ∃ (u : Ve) (l : Int), F_axis_of [TN q.R q.N] k = some (u.D, k) ∧ l ≠ 0 ∧ q.v = Ve.sm l u ∧ Prim u ∧ u.nz) := by
  obtain ⟨m, w, e, i⟩ := IsQ.of h
  have ax := axis_spec i hN (k := k)
  have e' : TN q.R q.N = tnD m w := e
  rw [e']
  refine ⟨fun z => ax.1 (Classical.not_not.mp z), fun z => ?_⟩
  obtain ⟨x, y, z', l, e1, e2, e3, e4, e5, e6⟩ := ax.2 z
  refine ⟨⟨x, y, z'⟩, l, e1, e2, ?_, e6, ?_⟩
  · simp only [Qn.v, Ve.sm, Ve.mk.injEq]; exact ⟨e3, e4, e5⟩
  · rintro ⟨z1, z2, z3⟩
    simp only at z1 z2 z3
    exact z ⟨by rw [Qn.v]; simp only [e3, z1, Int.mul_zero], by rw [Qn.v]; simp only [e4, z2, Int.mul_zero], by rw [Qn.v]; simp only [e5, z3, Int.mul_zero]⟩
/-- a small one -/
structure Qn.Sm (q : Qn) (n : Nat) : Prop where
  a : q.a.natAbs ≤ n
  b : q.b.natAbs ≤ n
  c : q.c.natAbs ≤ n
  d : q.d.natAbs ≤ n
theorem sq_bd {x : Int} {n : Nat} (h : x.natAbs ≤ n) : x * x ≤ ((n * n : Nat) : Int) := by
  have := Nat.mul_le_mul h h
  have e : ((x.natAbs * x.natAbs : Nat) : Int) = x * x := by simp only [Int.natCast_mul, Int.natAbs_mul_self']
  omega
theorem Qn.Sm.N {q : Qn} {n : Nat} (h : q.Sm n) : q.N ≤ ((4 * (n * n) : Nat) : Int) := by
  have h1 := sq_bd h.a; have h2 := sq_bd h.b; have h3 := sq_bd h.c; have h4 := sq_bd h.d
  simp only [Qn.N, Nq]; omega
theorem turn_byQ {q : Qn} (h : q.nz) (s : q.Sm 4096) (k : Nat) : F_turn_by [q.D] k = some (TN q.R q.N, k) := by
  have hp := Qn.pos h
  have hl := s.N
  have s1 := s.a; have s2 := s.b; have s3 := s.c; have s4 := s.d
  exact turn_by_spec h (by omega) (by omega) (by omega) (by omega) (by show (q.N).natAbs < _; omega)
theorem byQ {ns : List Int} (hn : ns.length ≤ 63) {k : Nat} : ∃ q : Qn, ∃ k', q.nz ∧ q.Sm 2 ∧ F__law_by ns [.drw] k = some (q.D, k') := by
  obtain ⟨a, b, c, d, k', h, h1, h2, h3, h4, e⟩ := by_spec hn (k := k)
  exact ⟨⟨a, b, c, d⟩, k', h, ⟨h1, h2, h3, h4⟩, e⟩
theorem sky_bd : ∀ t ∈ skyL, t.1.natAbs ≤ 8 ∧ t.2.1.natAbs ≤ 8 ∧ t.2.2.natAbs ≤ 8 ∧ ¬ (t.1 = 0 ∧ t.2.1 = 0 ∧ t.2.2 = 0) := by decide
theorem Sk.bd {x y z : Int} (h : Sk x y z) : x.natAbs ≤ 8 ∧ y.natAbs ≤ 8 ∧ z.natAbs ≤ 8 ∧ ¬ (x = 0 ∧ y = 0 ∧ z = 0) := by
  obtain ⟨t, ht, h1, h2, h3⟩ := h
  obtain ⟨b1, b2, b3, b4⟩ := sky_bd t ht
  unfold Pm at h1 h2 h3
  exact ⟨by omega, by omega, by omega, by omega⟩
theorem skyV {ns : List Int} (hn : ns.length ≤ 63) {k : Nat} : ∃ p : Ve, ∃ k', p.nz ∧ p.Bd 4 ∧ Sk p.x p.y p.z ∧ F__law_sky ns [.drw] k = some (p.D, k') := by
  obtain ⟨x, y, z, k', h, e⟩ := sky_spec hn (k := k)
  obtain ⟨b1, b2, b3, b4⟩ := h.bd
  exact ⟨⟨x, y, z⟩, k', b4, ⟨bd_of 8 b1 (by decide), bd_of 8 b2 (by decide), bd_of 8 b3 (by decide)⟩, h, e⟩
-- ### in a tuple of directions 
theorem in_ve2 (p q r : Ve) : cNotIn p.D (.tup [q.D, r.D]) = some (!(decide (q = p) || decide (r = p))) := by
  have e1 := eq_ve q p
  have e2 := eq_ve r p
  unfold cEqP at e1 e2
  simp only [cNotIn, cIn, memP, D.py, D.pys, Option.map, SeqAt.shaped, PyData.canLay0, PyData.canLayAll0, PyData.depth, PyData.depthAll] at *
  simp at *
  rw [e1, e2]
theorem in_ve3 (p q r : Ve) : cNotIn p.D (.tup [q.D, r.D, .non]) = some (!(decide (q = p) || decide (r = p))) := by
  have e1 := eq_ve q p
  have e2 := eq_ve r p
  have e3 : PyData.eqv .none (.tuple [.int p.x, .int p.y, .int p.z]) = false := by simp [PyData.eqv]
  unfold cEqP at e1 e2
  simp only [cNotIn, cIn, memP, D.py, D.pys, Option.map, SeqAt.shaped, PyData.canLay0, PyData.canLayAll0, PyData.depth, PyData.depthAll] at *
  simp at *
  rw [e1, e2, e3]
  simp
theorem in_non3 (q r : Ve) : cNotIn .non (.tup [q.D, r.D, .non]) = some false := by
  simp [cNotIn, cIn, memP, D.py, D.pys, SeqAt.shaped, PyData.canLay0, PyData.canLayAll0, PyData.depth, PyData.depthAll, PyData.eqv]
end Sky

end
section
namespace Sky
open PySem PySem.Spec PyProof.Rows L2
-- ### seen from another turn 
/-- n2 over y is n over x seen by p over u -/
def Rel (p : M9) (u : Int) (n : M9) (x : Int) (n2 : M9) (y : Int) : Prop := (n.cj p).sc y = n2.sc (u * (x * u))
theorem Rel.one {p : M9} {u : Int} (v : Va p u) : Rel p u I9 1 I9 1 := by
  unfold Rel; rw [cj_I v, sc_one, Int.one_mul]
theorem Rel.step {m p n n2 : M9} {w u x y : Int} (vp : Va p u) (h : Rel p u n x n2 y) : Rel p u (m.mul n) (w * x) ((m.cj p).mul n2) (u * (w * u) * y) := by
  unfold Rel at *
  have uu := Int.mul_pos vp.p vp.p
  have e1 : ((m.mul n).cj p).sc (u * u) = (m.cj p).mul (n.cj p) := (cj_mul vp m n).symm
  refine sc_inj uu ?_
  have e2 : (((m.mul n).cj p).sc (u * (w * u) * y)).sc (u * u) = ((m.cj p).mul ((n.cj p).sc y)).sc (u * (w * u)) := by
    rw [m_scr, ← e1, sc_sc, sc_sc, sc_sc]; congr 1; grind
  rw [e2, h, m_scr, sc_sc, sc_sc]; congr 1; grind
/-- so many times -/
def itM (m : M9) : Nat → M9 → M9
  | 0, n => n
  | j + 1, n => itM m j (m.mul n)
def itW (w : Int) : Nat → Int → Int
  | 0, u => u
  | j + 1, u => itW w j (w * u)
theorem it_va {m : M9} {w : Int} (v : Va m w) : ∀ (j : Nat) (n : M9) (u : Int), Va n u → Va (itM m j n) (itW w j u)
  | 0, _, _, h => h
  | j + 1, n, u, h => it_va v j _ _ (v.mul h)
theorem it_bd {w : Int} {b : Nat} (h : Bd b w) : ∀ (j : Nat) (u : Int) (c : Nat), Bd c u → Bd (b * j + c) (itW w j u)
  | 0, _, _, h => by rw [Nat.mul_zero, Nat.zero_add]; exact h
  | j + 1, u, c, h' => (it_bd h j (w * u) (b + c) (h.mul h')).mono (by rw [Nat.mul_succ]; omega)
theorem it_rel {m p : M9} {w u : Int} (vp : Va p u) : ∀ (j : Nat) (n n2 : M9) (x y : Int), Rel p u n x n2 y → Rel p u (itM m j n) (itW w j x) (itM (m.cj p) j n2) (itW (u * (w * u)) j y)
  | 0, _, _, _, _, h => h
  | j + 1, _, _, _, _, h => it_rel vp j _ _ _ _ (h.step vp)
theorem at_fl {m : M9} {w : Int} (v : Va m w) {b : Nat} (hw : Bd b w) {k : Nat} {s1 : Slot} : ∀ (ds : List D) (n : M9) (u : Int) (c : Nat) (s : Slot), Va n u → Bd c u → c + b * ds.length < 9000 →
    ∃ s', forLoop (tgName 3) (sSeq (sAsg (dCall 2 F_then (dCons (dV 2) (dCons (dV 0) (dNil)))) (tgName 2)) (sNext)) ds [.val (TN m w), s1, .val (TN n u), s] k = some (.nx [.val (TN m w), s1, .val (TN (itM m ds.length n) (itW w ds.length u)), s'], k) := by
  intro ds
  induction ds with
  | nil => intro n u c s _ _ _; exact ⟨s, rfl⟩
  | cons d ds ih =>
    intro n u c s vn hc hl
    simp only [List.length_cons, Nat.mul_succ] at hl
    have th := thenB (k := k) vn v hc hw (by omega)
    obtain ⟨s', r⟩ := ih (m.mul n) (w * u) (b + c) (.val d) (v.mul vn) (hw.mul hc) (by omega)
    refine ⟨s', ?_⟩
    rw [List.length_cons]
    unfold itM itW
    rw [← r]
    conv => lhs; unfold forLoop
    simp [put_name, M.bind, sSeq, sAsg, dCall, dCons, dV, dNil, M.pure, th, sNext]
theorem rng1_j {j : Nat} (hj : j ≤ 99) : rng [.int (j : Int)] = some (rangeD 0 j) := by
  have o1 : okR ((j : Int)) = true := by
    have e : (2 : Int) ^ 62 = 4611686018427387904 := rfl
    unfold okR
    rw [Bool.and_eq_true_iff, e]
    exact ⟨decide_eq_true (by omega), decide_eq_true (by omega)⟩
  have en : ((j : Int)).toNat = j := by omega
  show (if okR (j : Int) then some (rangeD 0 ((j : Int)).toNat) else none) = _
  rw [o1, en]; rfl
theorem range_len (lo : Int) (n : Nat) : (rangeD lo n).length = n := by simp [rangeD]
theorem cons1_ok {f : Sem} {ρ : Env} {k k1 : Nat} {d : D} (h1 : f ρ k = some (d, k1)) : dCons f dNil ρ k = some ([d], k1) := by simp only [dCons, dNil, M.bind, M.pure, h1]
theorem turn_atB {m : M9} {w : Int} {b j : Nat} (v : Va m w) (hw : Bd b w) (hj : j ≤ 99) (hb : b * j + 1 < 9000) (k : Nat) : F_turn_at [TN m w, .int j] k = some (TN (itM m j I9) (itW w j 1), k) := by
  refine runB_ret ?_
  show S_turn_at [.val (TN m w), .val (.int j), .no, .no] k = _
  unfold S_turn_at
  have s1 : sDrop (dCall 1 F_check_turn (dCons (dV 0) (dNil))) [.val (TN m w), .val (.int j), .no, .no] k = _ := drop_ok (c1_ok rfl check_TN)
  have cn : dCall 4 F_check_number (dCons (dC (.str "hour")) (dCons (dV 1) (dCons (dC (.int 0)) (dCons (dC (.int 99)) (dNil))))) [.val (TN m w), .val (.int j), .no, .no] k = some (.non, k) := by
    have := check_num (x := "hour") (j := j) (lo := 0) (hi := 99) (k := k) (by omega) (by omega)
    simp only [dCall, dCons, dNil, dC, dV, M.bind, M.pure, List.getElem?_cons_zero, List.getElem?_cons_succ, List.length_cons, List.length_nil, Nat.beq, Nat.zero_add, Nat.reduceAdd, this]
  have s3 : sAsg (dCall 0 F_no_turn dNil) (tgName 2) [.val (TN m w), .val (.int j), .no, .no] k = some (.nx [.val (TN m w), .val (.int j), .val (TN I9 1), .no], k) := asg_ok (c0_ok noT)
  have it : dRng (dCons (dV 1) dNil) [.val (TN m w), .val (.int j), .val (TN I9 1), .no] k = some (rangeD 0 j, k) := dRng_ok (cons1_ok rfl) (rng1_j hj)
  obtain ⟨s', l⟩ := at_fl v hw (k := k) (s1 := .val (.int j)) (rangeD 0 j) I9 1 1 .no va_I9 (by unfold Bd; decide) (by rw [range_len]; omega)
  rw [range_len] at l
  rw [seq_nx s1, seq_nx (drop_ok cn), seq_nx s3, seq_nx ((for_ok it).trans l)]
  rfl
-- ### the mirror in a plane 
def M9.ng (m : M9) : M9 := ⟨-m.a, -m.b, -m.c, -m.d, -m.e, -m.f, -m.g, -m.h, -m.i⟩
theorem va_ng {m : M9} {w : Int} (v : Va m w) : Va m.ng w := by
  obtain ⟨⟨o1, o2, o3, o4, o5, o6⟩, ⟨t1, t2, t3, t4, t5, t6⟩, p⟩ := v
  simp only [M9.tr] at t1 t2 t3 t4 t5 t6
  refine ⟨⟨?_, ?_, ?_, ?_, ?_, ?_⟩, ⟨?_, ?_, ?_, ?_, ?_, ?_⟩, p⟩ <;> simp only [M9.ng, M9.tr] <;> grind
theorem dt_ng (m : M9) : dt m.ng = -dt m := by simp only [dt, M9.ng]; grind
theorem ng_sc (m : M9) (c : Int) : (m.sc c).ng = m.ng.sc c := by
  simp only [M9.ng, M9.sc, M9.mk.injEq]; refine ⟨?_, ?_, ?_, ?_, ?_, ?_, ?_, ?_, ?_⟩ <;> grind
def Ve.q (p : Ve) : Qn := ⟨0, p.x, p.y, p.z⟩
/-- what flips p -/
def Fl (p : Ve) : M9 := (p.q.R).ng
theorem fl_nz {p : Ve} (h : p.nz) : p.q.nz := fun z => h z.2
theorem fl_N (p : Ve) : p.q.N = p.dot p := by simp only [Ve.q, Qn.N, Nq, Ve.dot]; grind
theorem fl_va {p : Ve} (h : p.nz) : Va (Fl p) p.q.N := va_ng (Qn.va (fl_nz h))
theorem fl_sg (p : Ve) : Sg (Fl p) p.q.N (-1) := ⟨.inr rfl, by rw [Fl, dt_ng, dt_Rq]; grind⟩
theorem fl_on (p r : Ve) : (Fl p).on r = ⟨p.dot p * r.x - 2 * (p.dot r) * p.x, p.dot p * r.y - 2 * (p.dot r) * p.y, p.dot p * r.z - 2 * (p.dot r) * p.z⟩ := by
  simp only [Fl, M9.ng, Ve.q, Qn.R, Rq, M9.on, Ve.dot, Ve.mk.injEq]; refine ⟨?_, ?_, ?_⟩ <;> grind
theorem fl_self (p : Ve) : (Fl p).on p = Ve.sm (p.q.N) (Ve.sm (-1) p) := by
  rw [fl_on, fl_N]; simp only [Ve.sm, Ve.mk.injEq]; refine ⟨?_, ?_, ?_⟩ <;> grind
theorem fl_perp {p r : Ve} (h : p.dot r = 0) : (Fl p).on r = Ve.sm (p.q.N) r := by
  rw [fl_on, fl_N, h]; simp only [Ve.sm, Ve.mk.injEq]; refine ⟨?_, ?_, ?_⟩ <;> grind
theorem fl_tr (p : Ve) : (Fl p).tr = Fl p := by
  simp only [Fl, M9.ng, Ve.q, Qn.R, Rq, M9.tr, M9.mk.injEq]; refine ⟨?_, ?_, ?_, ?_, ?_, ?_, ?_, ?_, ?_⟩ <;> grind
theorem fl_fl {p : Ve} (h : p.nz) : (Fl p).mul (Fl p) = I9.sc (p.q.N * p.q.N) := by
  have := (fl_va h).mt; rw [fl_tr] at this; exact this
theorem cr_dot_l (p q : Ve) : (p.cr q).dot p = 0 := by simp only [Ve.cr, Ve.dot]; grind
theorem cr_dot_r (p q : Ve) : (p.cr q).dot q = 0 := by simp only [Ve.cr, Ve.dot]; grind
/-- a turn about p commutes with what flips p -/
theorem fl_comm {q : Qn} {p : Ve} {l : Int} (h : q.v = Ve.sm l p) : (Fl p).mul q.R = (q.R).mul (Fl p) := by
  obtain ⟨a, b, c, d⟩ := q
  simp only [Qn.v, Ve.sm, Ve.mk.injEq] at h
  obtain ⟨rfl, rfl, rfl⟩ := h
  have e : ∀ (p q : Qn), p.R.ng.mul q.R = (p.R.mul q.R).ng ∧ q.R.mul p.R.ng = (q.R.mul p.R).ng := fun p q => by
    refine ⟨?_, ?_⟩ <;> (simp only [M9.mul, M9.ng, M9.mk.injEq]; refine ⟨?_, ?_, ?_, ?_, ?_, ?_, ?_, ?_, ?_⟩ <;> grind)
  unfold Fl
  rw [(e p.q _).1, (e p.q _).2, Qn.R_mul, Qn.R_mul]
  have : p.q.mul ⟨a, l * p.x, l * p.y, l * p.z⟩ = Qn.mul ⟨a, l * p.x, l * p.y, l * p.z⟩ p.q := by
    simp only [Qn.mul, Ve.q, Qn.mk.injEq]; refine ⟨?_, ?_, ?_, ?_⟩ <;> grind
  rw [this]
theorem glassB {p : Ve} (h : p.nz) (h1 : p.x.natAbs ≤ 4096) (h2 : p.y.natAbs ≤ 4096) (h3 : p.z.natAbs ≤ 4096) (k : Nat) : F__law_glass [p.D] k = some (TN (Fl p) p.q.N, k) := by
  have tb := turn_byQ (q := p.q) (fl_nz h) ⟨(show (0 : Int).natAbs ≤ 4096 by decide), h1, h2, h3⟩ k
  have va := Qn.va (fl_nz h)
  have bN : Bd 40 p.q.N := by
    have hp := Qn.pos (fl_nz h)
    have s : p.q.Sm 4096 := ⟨(show (0 : Int).natAbs ≤ 4096 by decide), h1, h2, h3⟩
    have := s.N
    exact bd_of 67108864 (by omega) (by decide)
  obtain ⟨m, u, g, e, hg, hm, hu, hv, hl, hb⟩ := TN_got va bN
  have e2 : TN (Fl p) p.q.N = TN m.ng u := by
    rw [Fl, ← hm, ← hu, ng_sc, TN_sc hg]
  rw [e] at tb
  have mk := mkB (k := k) (va_ng hv) hb
  simp only [M9.rows, M9.ng] at mk
  rw [e2]
  simp only [Ve.q] at tb
  simp [↓runB, ↓runI, ↓startE, ↓startI, ↓sSeq, ↓sRet, ↓sRetN, ↓sIf, ↓sAsg, ↓sDrop, ↓sFail, ↓sNext, ↓sPar2, ↓sPar3, ↓sFor, ↓forLoop, ↓sMe, ↓M.bind, ↓M.pure, ↓M.lift, ↓M.fail, ↓dBi, ↓dLc, ↓lcLoop, ↓dZip, ↓zipD, ↓pairD, ↓dEnumA, ↓enumD, ↓rangeD, ↓dRng, ↓dItems, ↓dCons, ↓dNil, ↓dBin, ↓dBinB, ↓dTup, ↓dLst, ↓dUn, ↓dIf, ↓dAndB, ↓dOrB, ↓dAndV, ↓dOrV, ↓dNotV, ↓D.tru, ↓dNotB, ↓dVal, ↓dIsi, ↓dIsiT, ↓dFld, ↓dCall, ↓dMake, ↓dEq, ↓dEqB, ↓dEqD, ↓dV, ↓dVR, ↓dC, ↓dTrue, ↓dTru, ↓tgTup, ↓tgsCons, ↓tgName, ↓tgsNil, ↓wipeE, ↓bSum, ↓bLen, ↓bAbs, ↓bTup, ↓bLst, ↓bAll, ↓bAny, ↓intsD, ↓boolsD, ↓D.add, ↓D.sub, ↓D.neg, ↓D.ix, ↓atI, ↓ixN, ↓D.mod, ↓D.kl, ↓Kl.sub, ↓Kl.subs, ↓Cn.fields, ↓cLt, ↓cLe, ↓cGe, ↓cGtA, ↓cIs, ↓cIsNot, ↓D.isNon, ↓D.items, ↓rng, ↓okR, ↓lim, ↓eq0, ↓dMeth, ↓dGet1, ↓keyD, ↓sFrz, ↓sOwn, ↓sApp, ↓dDrw0, ↓dDrw1, ↓sInc, ↓dLenS, ↓dIxS, ↓dNeS, ↓dPow, ↓bInt, ↓eqT, F__law_glass, S__law_glass, Ve.D, tb, mk, TN, M9.ng]
/-- a mirrored turn has no axis -/
theorem axis_mir {m : M9} {w : Int} {n : Nat} (v : Va m w) (h : Bd n w) (hn : n < 9000) (hd : dt m < 0) (k : Nat) : F_axis_of [TN m w] k = some (.non, k) := by
  refine runB_ret ?_
  show S_axis_of [.val (TN m w), .no, .no, .no, .no, .no, .no, .no] k = _
  unfold S_axis_of
  have s1 : sDrop (dCall 1 F_check_turn (dCons (dV 0) (dNil))) [.val (TN m w), .no, .no, .no, .no, .no, .no, .no] k = _ := drop_ok (c1_ok rfl check_TN)
  have mi := mirrB (k := k) (k0 := k) (f := dV 0) (ρ := [.val (TN m w), .no, .no, .no, .no, .no, .no, .no]) rfl v h hn
  rw [decide_eq_true hd] at mi
  rw [seq_nx s1]
  refine seq_ret ?_
  rw [sif_t (or_t (tru_ok mi))]
  rfl
end Sky

end
section
namespace Sky
open PySem PySem.Spec PyProof.Rows L2
def L0 (ns : List Int) : SemS := sAsg (dTup (dCons (dCall 1 F_turn_by (dCons (dCall 1 (F__law_by ns) (dCons (dV 1) (dNil))) (dNil))) (dCons (dCall 1 F_turn_by (dCons (dCall 1 (F__law_by ns) (dCons (dV 1) (dNil))) (dNil))) (dCons (dCall 1 (F__law_sky ns) (dCons (dV 1) (dNil))) (dNil))))) (tgTup 3 (tgsCons (tgName 3) (tgsCons (tgName 4) (tgsCons (tgName 5) (tgsNil)))))
def L1 (ns : List Int) : SemS := sAsg (dCall 2 F_then (dCons (dCall 2 F_then (dCons (dCall 1 F_back (dCons (dV 4) (dNil))) (dCons (dV 3) (dNil)))) (dCons (dV 4) (dNil)))) (tgName 6)
def L2 (ns : List Int) : SemS := sAsg (dCall 1 F_axis_of (dCons (dV 3) (dNil))) (tgName 7)
def L3 (ns : List Int) : SemS := sIf (dOrB (dEqB eqT true (dCall 2 F_order_of (dCons (dV 6) (dCons (dC (.int 12)) (dNil)))) (dCall 2 F_order_of (dCons (dV 3) (dCons (dC (.int 12)) (dNil))))) (dOrB (dEqB eqT true (dCall 1 F_hours_of_day (dCons (dV 6) (dNil))) (dCall 1 F_hours_of_day (dCons (dV 3) (dNil)))) (dEqB eqT true (dBin (fun x y => (cIs x y).map D.bl) (dV 7) (dC .non)) (dBin (fun x y => (cIs x y).map D.bl) (dCall 1 F_axis_of (dCons (dV 6) (dNil))) (dC .non))))) (sSeq (sRet (dC (.bl false))) (sNext)) (sNext)
def L4 (ns : List Int) : SemS := sIf (dAndB (dBinB cIsNot (dV 7) (dC .non)) (dBinB cNotIn (dCall 1 F_axis_of (dCons (dV 6) (dNil))) (dTup (dCons (dCall 2 F_apply (dCons (dV 4) (dCons (dV 7) (dNil)))) (dCons (dCall 1 F_opposite (dCons (dCall 2 F_apply (dCons (dV 4) (dCons (dV 7) (dNil)))) (dNil))) (dNil)))))) (sSeq (sRet (dC (.bl false))) (sNext)) (sNext)
def L5 (ns : List Int) : SemS := sIf (dOrB (dTru (dBi bAny (dCons (dLc [14] (dItems (dTup (dCons (dC (.int 0)) (dCons (dC (.int 1)) (dCons (dC (.int 2)) (dCons (dC (.int 3)) (dNil))))))) (tgName 14) (dTrue) (dEq eqT true (dCall 2 F_turn_at (dCons (dV 6) (dCons (dV 14) (dNil)))) (dCall 2 F_then (dCons (dCall 2 F_then (dCons (dCall 1 F_back (dCons (dV 4) (dNil))) (dCons (dCall 2 F_turn_at (dCons (dV 3) (dCons (dV 14) (dNil)))) (dNil)))) (dCons (dV 4) (dNil)))))) (dNil)))) (dEqB eqT true (dCall 2 F_apply (dCons (dV 6) (dCons (dCall 2 F_apply (dCons (dV 4) (dCons (dV 5) (dNil)))) (dNil)))) (dCall 2 F_apply (dCons (dV 4) (dCons (dCall 2 F_apply (dCons (dV 3) (dCons (dV 5) (dNil)))) (dNil)))))) (sSeq (sRet (dC (.bl false))) (sNext)) (sNext)
def L6 (ns : List Int) : SemS := sAsg (dCall 2 F_then (dCons (dCall 2 F_then (dCons (dCall 0 F_mirror dNil) (dCons (dV 3) (dNil)))) (dCons (dCall 0 F_mirror dNil) (dNil)))) (tgName 8)
def L7 (ns : List Int) : SemS := sIf (dOrB (dTru (dMeth mt_is_mirrored "is_mirrored" (dV 8) dNil)) (dOrB (dEqB eqT true (dCall 2 F_order_of (dCons (dV 8) (dCons (dC (.int 12)) (dNil)))) (dCall 2 F_order_of (dCons (dV 3) (dCons (dC (.int 12)) (dNil))))) (dEqB eqT true (dCall 2 F_apply (dCons (dV 8) (dCons (dTup (dCons (dBin D.ix (dV 5) (dC (.int 0))) (dCons (dBin D.ix (dV 5) (dC (.int 1))) (dCons (dBin D.sub (dC (.int 0)) (dBin D.ix (dV 5) (dC (.int 2)))) (dNil))))) (dNil)))) (dCall 2 F_apply (dCons (dCall 0 F_mirror dNil) (dCons (dCall 2 F_apply (dCons (dV 3) (dCons (dV 5) (dNil)))) (dNil))))))) (sSeq (sRet (dC (.bl false))) (sNext)) (sNext)
def L8 (ns : List Int) : SemS := sIf (dBinB cIsNot (dV 7) (dC .non)) (sSeq (sAsg (dCall 1 F__law_glass (dCons (dV 7) (dNil))) (tgName 9)) (sSeq (sIf (dOrB (dAndB (dEqB eqT true (dCall 2 F_then (dCons (dCall 2 F_then (dCons (dV 9) (dCons (dV 3) (dNil)))) (dCons (dV 9) (dNil)))) (dCall 1 F_back (dCons (dV 3) (dNil)))) (dEqB eqT true (dCall 2 F_then (dCons (dCall 2 F_then (dCons (dV 9) (dCons (dV 3) (dNil)))) (dCons (dV 9) (dNil)))) (dV 3))) (dOrB (dEqB eqT true (dCall 2 F_apply (dCons (dV 9) (dCons (dV 7) (dNil)))) (dCall 1 F_opposite (dCons (dV 7) (dNil)))) (dOrB (dEqB eqT true (dCall 2 F_then (dCons (dV 9) (dCons (dV 9) (dNil)))) (dCall 0 F_no_turn dNil)) (dBinB cIsNot (dCall 1 F_axis_of (dCons (dV 9) (dNil))) (dC .non))))) (sSeq (sRet (dC (.bl false))) (sNext)) (sNext)) (sSeq (sAsg (dIf (dBinB cLt (dBi bMax (dCons (dLc [15] (dItems (dV 7)) (tgName 15) (dTrue) (dBi bAbs (dCons (dV 15) (dNil)))) (dNil))) (dC (.int 1000))) (dCall 1 F_turn_by (dCons (dBin D.add (dTup (dCons (dBin D.add (dC (.int 1)) (dCall 2 (F__law_take ns) (dCons (dV 1) (dCons (dC (.int 3)) (dNil))))) (dNil))) (dV 7)) (dNil))) (dV 3)) (tgName 10)) (sSeq (sIf (dOrB (dEqB eqT true (dCall 2 F_then (dCons (dV 3) (dCons (dV 10) (dNil)))) (dCall 2 F_then (dCons (dV 10) (dCons (dV 3) (dNil))))) (dBinB cNotIn (dCall 1 F_axis_of (dCons (dCall 2 F_then (dCons (dV 3) (dCons (dV 10) (dNil)))) (dNil))) (dTup (dCons (dV 7) (dCons (dCall 1 F_opposite (dCons (dV 7) (dNil))) (dCons (dC .non) (dNil))))))) (sSeq (sRet (dC (.bl false))) (sNext)) (sNext)) (sNext))))) (sNext)
def L9 (ns : List Int) : SemS := sAsg (dCall 1 (F__law_sky ns) (dCons (dV 1) (dNil))) (tgName 11)
def L10 (ns : List Int) : SemS := sIf (dNotB (dTru (dCall 2 F_is_on_line (dCons (dV 5) (dCons (dV 11) (dNil)))))) (sSeq (sAsg (dCall 5 F_turns_between (dCons (dV 5) (dCons (dV 11) (dCons (dCall 2 F_apply (dCons (dV 3) (dCons (dV 5) (dNil)))) (dCons (dCall 2 F_apply (dCons (dV 3) (dCons (dV 11) (dNil)))) (dCons (dC (.str "either")) (dNil))))))) (tgName 12)) (sSeq (sAsg (dCall 5 F_turns_between (dCons (dCall 2 F_apply (dCons (dV 4) (dCons (dV 5) (dNil)))) (dCons (dCall 2 F_apply (dCons (dV 4) (dCons (dV 11) (dNil)))) (dCons (dCall 2 F_apply (dCons (dV 4) (dCons (dCall 2 F_apply (dCons (dV 3) (dCons (dV 5) (dNil)))) (dNil)))) (dCons (dCall 2 F_apply (dCons (dV 4) (dCons (dCall 2 F_apply (dCons (dV 3) (dCons (dV 11) (dNil)))) (dNil)))) (dCons (dC (.str "either")) (dNil))))))) (tgName 13)) (sSeq (sIf (dOrB (dM2 true (leqD eqT) (dLc [16] (dItems (dV 12)) (tgName 16) (dTrue) (dCall 2 F_then (dCons (dCall 2 F_then (dCons (dCall 1 F_back (dCons (dV 4) (dNil))) (dCons (dV 16) (dNil)))) (dCons (dV 4) (dNil))))) (dV 13)) (dOrB (dEqB eqT true (dBin D.ix (dV 12) (dC (.int 0))) (dV 3)) (dEqB eqT true (dCall 2 F_apply (dCons (dV 3) (dCons (dCall 2 F_cross (dCons (dV 5) (dCons (dV 11) (dNil)))) (dNil)))) (dCall 2 F_apply (dCons (dBin D.ix (dV 12) (dC (.int 0))) (dCons (dCall 2 F_cross (dCons (dV 5) (dCons (dV 11) (dNil)))) (dNil))))))) (sSeq (sRet (dC (.bl false))) (sNext)) (sNext)) (sNext)))) (sNext)

-- ### what one round draws 
structure Rd (q1 q2 : Qn) (p : Ve) : Prop where
  n1 : q1.nz
  n2 : q2.nz
  s1 : q1.Sm 2
  s2 : q2.Sm 2
  n3 : p.nz
  b3 : p.Bd 4
variable {q1 q2 : Qn} {p : Ve} {ns : List Int} {ρ : Env} {k : Nat}
theorem Qn.Sm.bd {q : Qn} (h : q.nz) (s : q.Sm 2) : Sky.Bd 5 q.N := by
  have hp := Qn.pos h
  have := s.N
  exact bd_of 16 (by omega) (by decide)
theorem Rd.v1 (r : Rd q1 q2 p) : Va q1.R q1.N := Qn.va r.n1
theorem Rd.v2 (r : Rd q1 q2 p) : Va q2.R q2.N := Qn.va r.n2
theorem Rd.b1 (r : Rd q1 q2 p) : Sky.Bd 5 q1.N := r.s1.bd r.n1
theorem Rd.b2 (r : Rd q1 q2 p) : Sky.Bd 5 q2.N := r.s2.bd r.n2
abbrev one (q1 : Qn) : D := TN q1.R q1.N
abbrev seen (q1 q2 : Qn) : D := TN (q1.R.cj q2.R) (q2.N * (q1.N * q2.N))
theorem Rd.vs (r : Rd q1 q2 p) : Va (q1.R.cj q2.R) (q2.N * (q1.N * q2.N)) := va_cj r.v1 r.v2
theorem Rd.bs (r : Rd q1 q2 p) : Sky.Bd 15 (q2.N * (q1.N * q2.N)) := r.b2.mul (r.b1.mul r.b2)
theorem tup3_ok {f g h : Sem} {ρ : Env} {k k1 k2 k3 : Nat} {a b c : D} (h1 : f ρ k = some (a, k1)) (h2 : g ρ k1 = some (b, k2)) (h3 : h ρ k2 = some (c, k3)) : dTup (dCons f (dCons g (dCons h dNil))) ρ k = some (.tup [a, b, c], k3) := by
  have t : lim 3 = true := rfl
  simp only [dTup, dCons, dNil, M.bind, M.pure, M.lift, h1, h2, h3, List.length_cons, List.length_nil, Nat.zero_add, Nat.reduceAdd, t, if_true]
theorem tup2_ok {f g : Sem} {ρ : Env} {k k1 k2 : Nat} {a b : D} (h1 : f ρ k = some (a, k1)) (h2 : g ρ k1 = some (b, k2)) : dTup (dCons f (dCons g dNil)) ρ k = some (.tup [a, b], k2) := by
  have t : lim 2 = true := rfl
  simp only [dTup, dCons, dNil, M.bind, M.pure, M.lift, h1, h2, List.length_cons, List.length_nil, Nat.zero_add, Nat.reduceAdd, t, if_true]
theorem asgT3_ok {f : Sem} {ρ : Env} {i j l k k' : Nat} {a b c : D} (h : f ρ k = some (.tup [a, b, c], k')) : sAsg f (tgTup 3 (tgsCons (tgName i) (tgsCons (tgName j) (tgsCons (tgName l) (tgsNil))))) ρ k = some (.nx (((ρ.set i (.val a)).set j (.val b)).set l (.val c)), k') := by
  simp only [sAsg, M.bind, h, tgTup, tgsCons, tgsNil, put_name, List.length_cons, List.length_nil, Nat.zero_add, Nat.reduceAdd, Nat.beq, M.pure]
theorem l0 (hn : ns.length ≤ 63) (h1 : ρ[1]? = some (.val .drw)) : ∃ q1 q2 p k', Rd q1 q2 p ∧ L0 ns ρ k = some (.nx (((ρ.set 3 (.val (one q1))).set 4 (.val (one q2))).set 5 (.val p.D)), k') := by
  obtain ⟨q1, k1, n1, s1, e1⟩ := byQ hn (k := k)
  obtain ⟨q2, k2, n2, s2, e2⟩ := byQ hn (k := k1)
  obtain ⟨p, k3, n3, b3, _, e3⟩ := skyV hn (k := k2)
  have t1 := turn_byQ n1 ⟨by have := s1.a; omega, by have := s1.b; omega, by have := s1.c; omega, by have := s1.d; omega⟩ k1
  have t2 := turn_byQ n2 ⟨by have := s2.a; omega, by have := s2.b; omega, by have := s2.c; omega, by have := s2.d; omega⟩ k2
  exact ⟨q1, q2, p, k3, ⟨n1, n2, s1, s2, n3, b3⟩, asgT3_ok (tup3_ok (c1_ok (c1_ok (dv h1 _) e1) t1) (c1_ok (c1_ok (dv h1 _) e2) t2) (c1_ok (dv h1 _) e3))⟩
theorem l1 (r : Rd q1 q2 p) (h3 : ρ[3]? = some (.val (one q1))) (h4 : ρ[4]? = some (.val (one q2))) : L1 ns ρ k = some (.nx (ρ.set 6 (.val (seen q1 q2))), k) := by
  obtain ⟨c1, c2, c3⟩ := cj_call r.v1 r.v2 r.b1 r.b2 (by decide) k
  exact asg_ok (c2_ok (c2_ok (c1_ok (dv h4 k) c1) (dv h3 k) c2) (dv h4 k) c3)
-- ### axes 
/-- axis: of one, of seen, and where way takes it -/
inductive AxK (q1 q2 : Qn) (k : Nat) (ax : D) : Prop where
  | no (h : ¬ q1.v.nz) (e : ax = .non) (e1 : F_axis_of [one q1] k = some (.non, k)) (e2 : F_axis_of [seen q1 q2] k = some (.non, k))
  | yes (u a b : Ve) (l : Int) (e : ax = u.D) (hl : l ≠ 0) (hv : q1.v = Ve.sm l u) (pr : Prim u) (nz : u.nz) (bu : u.x.natAbs ≤ 2 ∧ u.y.natAbs ≤ 2 ∧ u.z.natAbs ≤ 2) (e1 : F_axis_of [one q1] k = some (u.D, k)) (e2 : F_axis_of [seen q1 q2] k = some (a.D, k))
    (e3 : ∀ k, F_apply [one q2, u.D] k = some (b.D, k)) (e4 : ∀ k, F_opposite [b.D] k = some ((Ve.sm (-1) b).D, k)) (ab : a = b ∨ a = Ve.sm (-1) b) : AxK q1 q2 k ax
theorem le_sm {l x y : Int} {n : Nat} (hl : l ≠ 0) (e : y = l * x) (h : y.natAbs ≤ n) : x.natAbs ≤ n := by
  rw [e, Int.natAbs_mul] at h
  exact Nat.le_trans (Nat.le_mul_of_pos_left _ (by omega)) h
theorem bd3_of {u : Ve} {n : Nat} {m : Nat} (h : u.x.natAbs ≤ m ∧ u.y.natAbs ≤ m ∧ u.z.natAbs ≤ m) (hm : m < 2 ^ n) : u.Bd n := ⟨bd_of m h.1 hm, bd_of m h.2.1 hm, bd_of m h.2.2 hm⟩
theorem seen_q (q1 q2 : Qn) : seen q1 q2 = TN (q1.cj q2).R (q1.cj q2).N := by rw [Qn.R_cj, Qn.N_cj]
theorem axk_of (r : Rd q1 q2 p) (k : Nat) : ∃ ax, AxK q1 q2 k ax := by
  have hq := nz_cj r.n1 r.n2
  have hN : (q1.cj q2).N < 1048576 := by
    rw [Qn.N_cj]
    have a1 := Qn.pos r.n1; have a2 := Qn.pos r.n2
    have b1 := r.s1.N; have b2 := r.s2.N
    have c1 : q1.N * q2.N ≤ 16 * 16 := Int.mul_le_mul (by omega) (by omega) (by omega) (by decide)
    have c0 : 0 < q1.N * q2.N := Int.mul_pos a1 a2
    have c2 : q2.N * (q1.N * q2.N) ≤ 16 * (16 * 16) := Int.mul_le_mul (by omega) c1 (by omega) (by decide)
    omega
  have hN1 : q1.N < 1048576 := by have b1 := r.s1.N; omega
  obtain ⟨x1, x2⟩ := axisQ r.n1 hN1 k
  obtain ⟨y1, y2⟩ := axisQ hq hN k
  rw [← seen_q] at y1 y2
  have hv := Qn.v_cj q1 q2
  by_cases z : q1.v.nz
  · obtain ⟨u, l, e1, hl, e, pr, nz⟩ := x2 z
    have e' := e
    simp only [Qn.v, Ve.sm, Ve.mk.injEq] at e'
    have bu := And.intro (le_sm hl e'.1 r.s1.b) (And.intro (le_sm hl e'.2.1 r.s1.c) (le_sm hl e'.2.2 r.s1.d))
    obtain ⟨b, g, f, hg, f1, f2, f3, f4⟩ := apply_ve (k := k) r.v2 r.b2 nz (bd3_of (n := 2) bu (by decide)) (by decide)
    rw [e, on_sm, f1, sm_sm] at hv
    have nz2 : (q1.cj q2).v.nz := by
      rw [hv]
      exact nz_sm0 (Int.mul_ne_zero hl (Int.ne_of_gt hg)) f4
    obtain ⟨a, l', g1, hl', g2, g3', g4⟩ := y2 nz2
    have e4 : ∀ k, F_opposite [b.D] k = some ((Ve.sm (-1) b).D, k) := fun k => opp_prim (p := b) (n := 5 + 2 + 2) f4 f2 f3 (by decide) k
    have lg : l * g ≠ 0 := Int.mul_ne_zero hl (Int.ne_of_gt hg)
    have pm := prim_pm hl' lg g3' f2 (g2.symm.trans hv)
    exact ⟨u.D, AxK.yes u a b l rfl hl e pr nz bu e1 g1 f e4 pm⟩
  · have z2 : ¬ (q1.cj q2).v.nz := by
      rw [hv]
      have z' := Classical.not_not.mp z
      intro h
      exact h (by simp only [M9.on, z'.1, z'.2.1, z'.2.2, Int.mul_zero, Int.add_zero]; exact ⟨trivial, trivial, trivial⟩)
    exact ⟨.non, .no z rfl (x1 z) (y1 z2)⟩
theorem is_ok {f g : Sem} {ρ : Env} {k k1 k2 : Nat} {d e : D} {b : Bool} (h : f ρ k = some (d, k1)) (h1 : g ρ k1 = some (e, k2)) (c : cIs d e = some b) : dBin (fun x y => (cIs x y).map D.bl) f g ρ k = some (.bl b, k2) := by
  simp only [dBin, M.bind, h, h1, c, Option.map, M.lift]
theorem binB_ok {c : D → D → Option Bool} {f g : Sem} {ρ : Env} {k k1 k2 : Nat} {d e : D} {b : Bool} (h : f ρ k = some (d, k1)) (h1 : g ρ k1 = some (e, k2)) (hc : c d e = some b) : dBinB c f g ρ k = some (b, k2) := by
  simp only [dBinB, M.bind, h, h1, hc, M.lift]
theorem l2 {ax : D} (a : AxK q1 q2 k ax) (h3 : ρ[3]? = some (.val (one q1))) : L2 ns ρ k = some (.nx (ρ.set 7 (.val ax)), k) := by
  cases a with
  | no h e e1 e2 => subst e; exact asg_ok (c1_ok (dv h3 k) e1)
  | yes u a b l e hl hv pr nz bu e1 e2 e3 e4 ab => subst e; exact asg_ok (c1_ok (dv h3 k) e1)
theorem l3 {ax : D} (r : Rd q1 q2 p) (a : AxK q1 q2 k ax) (h3 : ρ[3]? = some (.val (one q1))) (h6 : ρ[6]? = some (.val (seen q1 q2))) (h7 : ρ[7]? = some (.val ax)) : L3 ns ρ k = some (.nx ρ, k) := by
  have o1 := orderB (j := 12) r.v1 r.b1 (by decide) (by decide) k
  have o2 := orderB (j := 12) r.vs r.bs (by decide) (by decide) k
  have t1 := hoursB r.v1 r.b1 (by decide) k
  have t2 := hoursB r.vs r.bs (by decide) k
  rw [ordA_cj0 r.v1 r.v2] at o2 t2
  refine (sif_f (or_f (ne_opt (c2_ok (dv h6 k) rfl o2) (c2_ok (dv h3 k) rfl o1)) (or_f (ne_opt (c1_ok (dv h6 k) t2) (c1_ok (dv h3 k) t1)) ?_))).trans rfl
  cases a with
  | no h e e1 e2 => subst e; exact ne_bl (is_ok (dv h7 k) rfl rfl) (is_ok (c1_ok (dv h6 k) e2) rfl rfl)
  | yes u a b l e hl hv pr nz bu e1 e2 e3 e4 ab => subst e; exact ne_bl (is_ok (dv h7 k) rfl rfl) (is_ok (c1_ok (dv h6 k) e2) rfl rfl)
theorem l4 {ax : D} (r : Rd q1 q2 p) (a : AxK q1 q2 k ax) (h4 : ρ[4]? = some (.val (one q2))) (h6 : ρ[6]? = some (.val (seen q1 q2))) (h7 : ρ[7]? = some (.val ax)) : L4 ns ρ k = some (.nx ρ, k) := by
  cases a with
  | no h e e1 e2 =>
    subst e
    exact (sif_f (and_f (binB_ok (dv h7 k) rfl rfl))).trans rfl
  | yes u a b l e hl hv pr nz bu e1 e2 e3 e4 ab =>
    subst e
    refine (sif_f (and_t (binB_ok (dv h7 k) rfl rfl) (binB_ok (c1_ok (dv h6 k) e2) (tup2_ok (c2_ok (dv h4 k) (dv h7 k) (e3 k)) (c1_ok (c2_ok (dv h4 k) (dv h7 k) (e3 k)) (e4 k))) ?_))).trans rfl
    rw [in_ve2]
    rcases ab with rfl | rfl <;> simp
end Sky

end
section
namespace Sky
open PySem PySem.Spec PyProof.Rows L2
variable {q1 q2 : Qn} {p : Ve} {ns : List Int} {ρ : Env} {k : Nat}
-- ### where directions go 
/-- late, by one and way -/
structure Wh (q1 q2 : Qn) (p a b c : Ve) (g1 g2 g3 : Int) : Prop where
  e1 : ∀ k, F_apply [one q2, p.D] k = some (a.D, k)
  e2 : ∀ k, F_apply [one q1, p.D] k = some (b.D, k)
  e3 : ∀ k, F_apply [one q2, b.D] k = some (c.D, k)
  p1 : 0 < g1
  p2 : 0 < g2
  p3 : 0 < g3
  f1 : q2.R.on p = Ve.sm g1 a
  f2 : q1.R.on p = Ve.sm g2 b
  f3 : q2.R.on b = Ve.sm g3 c
  r1 : Prim a
  r2 : Prim b
  r3 : Prim c
  b1 : a.Bd 18
  b2 : b.Bd 18
  b3 : c.Bd 18
  z1 : a.nz
  z2 : b.nz
  z3 : c.nz
theorem wh_of (n1 : q1.nz) (n2 : q2.nz) (s1 : q1.Sm 2) (s2 : q2.Sm 2) (n3 : p.nz) (b3 : p.Bd 4) : ∃ a b c g1 g2 g3, Wh q1 q2 p a b c g1 g2 g3 := by
  obtain ⟨a, g1, e1, p1, f1, r1, b1, z1⟩ := apply_ve (k := 0) (Qn.va n2) (s2.bd n2) n3 b3 (by decide)
  obtain ⟨b, g2, e2, p2, f2, r2, b2, z2⟩ := apply_ve (k := 0) (Qn.va n1) (s1.bd n1) n3 b3 (by decide)
  obtain ⟨c, g3, e3, p3, f3, r3, b3', z3⟩ := apply_ve (k := 0) (Qn.va n2) (s2.bd n2) z2 b2 (by decide)
  exact ⟨a, b, c, g1, g2, g3, e1, e2, e3, p1, p2, p3, f1, f2, f3, r1, r2, r3, b1.mono (by decide), b2.mono (by decide), b3'.mono (by decide), z1, z2, z3⟩
theorem cj_on {m w : M9} {u : Int} (v : Va w u) {p a : Ve} {g : Int} (f : w.on p = Ve.sm g a) : Ve.sm g ((m.cj w).on a) = Ve.sm (u * u) (w.on (m.on p)) := by
  rw [← on_sm, ← f, M9.cj, on_mul, on_mul, v.tm_on, on_sm, on_sm]
theorem Wh.seen {a b c : Ve} {g1 g2 g3 : Int} (h : Wh q1 q2 p a b c g1 g2 g3) (n2 : q2.nz) : Ve.sm g1 ((q1.R.cj q2.R).on a) = Ve.sm (q2.N * q2.N * (g2 * g3)) c := by
  rw [cj_on (Qn.va n2) h.f1, h.f2, on_sm, h.f3, sm_sm, sm_sm]; congr 1; rw [Int.mul_assoc]
-- ### turns at hours 
theorem hour_ok (r : Rd q1 q2 p) (h4 : ρ[4]? = some (.val (one q2))) (h3 : ρ[3]? = some (.val (one q1))) (h6 : ρ[6]? = some (.val (seen q1 q2))) {j : Nat} (hj : j ≤ 3) (h14 : ρ[14]? = some (.val (.int j))) :
    dEq eqT true (dCall 2 F_turn_at (dCons (dV 6) (dCons (dV 14) (dNil)))) (dCall 2 F_then (dCons (dCall 2 F_then (dCons (dCall 1 F_back (dCons (dV 4) (dNil))) (dCons (dCall 2 F_turn_at (dCons (dV 3) (dCons (dV 14) (dNil)))) (dNil)))) (dCons (dV 4) (dNil)))) ρ k = some (.bl false, k) := by
  have t1 := turn_atB (j := j) r.v1 r.b1 (by omega) (by omega) k
  have t2 := turn_atB (j := j) r.vs r.bs (by omega) (by omega) k
  have va1 := it_va r.v1 j I9 1 va_I9
  have va2 := it_va r.vs j I9 1 va_I9
  have bd1 := (it_bd r.b1 j 1 1 (by unfold Sky.Bd; decide)).mono (show 5 * j + 1 ≤ 16 by omega)
  obtain ⟨c1, c2, c3⟩ := cj_call va1 r.v2 bd1 r.b2 (by decide) k
  have rel := it_rel (m := q1.R) (w := q1.N) r.v2 j I9 I9 1 1 (Rel.one r.v2)
  have e := turn_neV (neg := true) (c2_ok (dv h6 k) (dv h14 k) t2) (c2_ok (c2_ok (c1_ok (dv h4 k) c1) (c2_ok (dv h3 k) (dv h14 k) t1) c2) (dv h4 k) c3) va2 (va_cj va1 r.v2)
  rw [e]
  unfold Rel at rel
  rw [decide_eq_true rel.symm]; rfl
theorem lc_put {i : Nat} {c f : Sem} {ρ ρ' : Env} {d x : D} {ds xs : List D} {k k' : Nat} (hf : f (ρ.set i (.val d)) k = some (x, k)) (hr : lcLoop (tgName i) dTrue f ρ ds k = some (xs, k')) : lcLoop (tgName i) dTrue f ρ (d :: ds) k = some (x :: xs, k') := by
  simp only [lcLoop, put_name, M.bind, dTrue, hf, hr, M.pure]
theorem lc_nil {i : Nat} {f : Sem} {ρ : Env} {k : Nat} : lcLoop (tgName i) dTrue f ρ [] k = some ([], k) := rfl
theorem lc_ok {vs : List Nat} {it : SemL} {i : Nat} {f : Sem} {ρ : Env} {ds xs : List D} {k k1 k2 : Nat} (h : it ρ k = some (ds, k1)) (hl : lcLoop (tgName i) dTrue f (wipeE ρ vs) ds k1 = some (xs, k2)) (hx : lim xs.length = true) : dLc vs it (tgName i) dTrue f ρ k = some (.lst xs, k2) := by
  simp only [dLc, M.bind, h, hl, M.lift, hx, if_true]
theorem items_ok {f : Sem} {ρ : Env} {d : D} {ds : List D} {k k' : Nat} (h : f ρ k = some (d, k')) (hi : d.items = some ds) : dItems f ρ k = some (ds, k') := by simp only [dItems, M.bind, h, hi, M.lift]
theorem bi_ok {g : List D → Option D} {f : SemL} {ρ : Env} {ds : List D} {d : D} {k k' : Nat} (h : f ρ k = some (ds, k')) (hg : g ds = some d) : dBi g f ρ k = some (d, k') := by simp only [dBi, M.bind, h, hg, M.lift]
theorem l5 {a b c : Ve} {g1 g2 g3 : Int} (r : Rd q1 q2 p) (h : Wh q1 q2 p a b c g1 g2 g3) (h3 : ρ[3]? = some (.val (one q1))) (h4 : ρ[4]? = some (.val (one q2))) (h5 : ρ[5]? = some (.val p.D)) (h6 : ρ[6]? = some (.val (seen q1 q2))) (hl : 14 < ρ.length) : L5 ns ρ k = some (.nx ρ, k) := by
  have g : ∀ (i : Nat) (d : D) (s : Slot), i ≠ 14 → ρ[i]? = some s → ((ρ.set 14 .no).set 14 (.val d))[i]? = some s := fun i d s hi e => by rw [gs (Ne.symm hi), gs (Ne.symm hi)]; exact e
  have g14 : ∀ d : D, ((ρ.set 14 .no).set 14 (.val d))[14]? = some (.val d) := fun d => by rw [List.getElem?_set_self (by rw [List.length_set]; exact hl)]
  have one_h : ∀ (j : Nat), j ≤ 3 → _ := fun j hj => hour_ok (k := k) (ρ := (ρ.set 14 .no).set 14 (.val (.int j))) r (g 4 _ _ (by decide) h4) (g 3 _ _ (by decide) h3) (g 6 _ _ (by decide) h6) hj (g14 _)
  have lc := lc_ok (vs := [14]) (ρ := ρ) (k := k) (it := dItems (dTup (dCons (dC (.int 0)) (dCons (dC (.int 1)) (dCons (dC (.int 2)) (dCons (dC (.int 3)) (dNil))))))) (ds := [.int 0, .int 1, .int 2, .int 3]) rfl
    (lc_put (c := dV 0) (ρ' := []) (one_h 0 (by decide)) (lc_put (c := dV 0) (ρ' := []) (one_h 1 (by decide)) (lc_put (c := dV 0) (ρ' := []) (one_h 2 (by decide)) (lc_put (c := dV 0) (ρ' := []) (one_h 3 (by decide)) lc_nil)))) rfl
  have an := tru_ok (bi_ok (g := bAny) (cons1_ok lc) (d := .bl false) rfl)
  have e4 := apply_is (n := 15) (n' := 18) r.vs r.bs h.z1 h.b1 (by decide) h.p1 (Int.mul_pos (Int.mul_pos r.v2.p r.v2.p) (Int.mul_pos h.p2 h.p3)) (h.seen r.n2) h.r3 k
  refine (sif_f (or_f an (ne_ve (p := c) (c2_ok (dv h6 k) (c2_ok (dv h4 k) (dv h5 k) (h.e1 k)) e4) (c2_ok (dv h4 k) (c2_ok (dv h3 k) (dv h5 k) (h.e2 k)) (h.e3 k))))).trans rfl
-- ### in a mirror 
abbrev flatD (q1 : Qn) : D := TN (q1.R.cj J9) (1 * (q1.N * 1))
theorem l6 (r : Rd q1 q2 p) (h3 : ρ[3]? = some (.val (one q1))) : L6 ns ρ k = some (.nx (ρ.set 8 (.val (flatD q1))), k) := by
  have b : Sky.Bd 1 1 := by unfold Sky.Bd; decide
  have t1 := thenB (k := k) va_J9 r.v1 b r.b1 (by decide)
  have t2 := thenB (k := k) (r.v1.mul va_J9) va_J9 (r.b1.mul b) b (by decide)
  exact asg_ok (c2_ok (c2_ok (c0_ok mirT) (dv h3 k) t1) (c0_ok mirT) t2)
theorem bin_ok {G : D → D → Option D} {f g : Sem} {ρ : Env} {k k1 k2 : Nat} {x y z : D} (h : f ρ k = some (x, k1)) (h1 : g ρ k1 = some (y, k2)) (hg : G x y = some z) : dBin G f g ρ k = some (z, k2) := by simp only [dBin, M.bind, h, h1, hg, M.lift]
theorem ix3 {p : Ve} {i : Nat} {x : Int} {f : Sem} (hf : f ρ k = some (p.D, k)) (h : atI [D.int p.x, .int p.y, .int p.z] (i : Int) = some (.int x)) : dBin D.ix f (dC (.int i)) ρ k = some (.int x, k) := by
  simp only [dBin, M.bind, hf, dC, Ve.D, v3, D.ix, h, M.lift]
theorem l7 {a b c : Ve} {g1 g2 g3 : Int} (r : Rd q1 q2 p) (h : Wh q1 q2 p a b c g1 g2 g3) (h3 : ρ[3]? = some (.val (one q1))) (h5 : ρ[5]? = some (.val p.D)) (h8 : ρ[8]? = some (.val (flatD q1))) : L7 ns ρ k = some (.nx ρ, k) := by
  have b0 : Sky.Bd 1 1 := by unfold Sky.Bd; decide
  have vf : Va (q1.R.cj J9) (1 * (q1.N * 1)) := va_cj r.v1 va_J9
  have bf : Sky.Bd 7 (1 * (q1.N * 1)) := b0.mul (r.b1.mul b0)
  have mi := mirrB (k := k) (k0 := k) (f := dV 8) (ρ := ρ) (dv h8 k) vf bf (by decide)
  have hd : ¬ dt (q1.R.cj J9) < 0 := by
    have e : dt (q1.R.cj J9) = q1.N * q1.N * q1.N := by
      rw [M9.cj, dt_mul, dt_mul, dt_tr, dt_Rq]
      have : dt J9 = -1 := by decide
      rw [this]; grind
    have := Int.mul_pos (Int.mul_pos r.v1.p r.v1.p) r.v1.p
    rw [e]; exact Int.not_lt.mpr (Int.le_of_lt this)
  rw [decide_eq_false hd] at mi
  have o1 := orderB (j := 12) r.v1 r.b1 (by decide) (by decide) k
  have o2 := orderB (j := 12) vf bf (by decide) (by decide) k
  rw [ordA_cj0 r.v1 va_J9] at o2
  have jp : J9.on p = ⟨p.x, p.y, 0 - p.z⟩ := by simp [J9, M9.on]
  have njp : (J9.on p).nz := on_nz va_J9 r.n3
  have bjp : (J9.on p).Bd 5 := by rw [jp]; exact ⟨r.b3.a.mono (by decide), r.b3.b.mono (by decide), (Bd.sub (x := 0) (n := 4) (by unfold Sky.Bd; decide) r.b3.c)⟩
  obtain ⟨d, g4, e4, p4, f4, r4, b4, z4⟩ := apply_ve (k := k) va_J9 b0 h.z2 h.b2 (by decide)
  have e5 := apply_is (n := 7) (n' := 5) (a := 1) (b := g2 * g4) (p := J9.on p) (q := d) vf bf njp bjp (by decide) (by decide) (Int.mul_pos h.p2 p4) (by
    rw [sm_one, M9.cj, on_mul, on_mul, tr_J, ← on_mul, ← on_mul, ← on_mul]
    rw [show ((J9.mul q1.R).mul J9).mul J9 = J9.mul q1.R by rw [m_assoc, J_J, mul_I]]
    rw [on_mul, h.f2, on_sm, f4, sm_sm]) r4 k
  rw [jp] at e5
  have m5 : dTup (dCons (dBin D.ix (dV 5) (dC (.int 0))) (dCons (dBin D.ix (dV 5) (dC (.int 1))) (dCons (dBin D.sub (dC (.int 0)) (dBin D.ix (dV 5) (dC (.int 2)))) (dNil)))) ρ k = some ((⟨p.x, p.y, 0 - p.z⟩ : Ve).D, k) := by
    refine tup3_ok (ix3 (i := 0) (dv h5 k) rfl) (ix3 (i := 1) (dv h5 k) rfl) ?_
    exact bin_ok (G := D.sub) (f := dC (.int 0)) (x := .int 0) (y := .int p.z) rfl (ix3 (i := 2) (dv h5 k) rfl) rfl
  exact (sif_f (or_f (tru_ok mi) (or_f (ne_opt (c2_ok (dv h8 k) rfl o2) (c2_ok (dv h3 k) rfl o1)) (ne_ve (p := d) (c2_ok (dv h8 k) m5 e5) (c2_ok (c0_ok mirT) (c2_ok (dv h3 k) (dv h5 k) (h.e2 k)) (e4 k)))))).trans rfl
end Sky

end
section
namespace Sky
open PySem PySem.Spec PyProof.Rows L2
variable {q1 q2 : Qn} {p : Ve} {ns : List Int} {ρ : Env} {k : Nat}
theorem and_2f {f g : SemB} {ρ : Env} {k k1 : Nat} {b : Bool} (hf : f ρ k = some (b, k)) (hg : g ρ k = some (false, k1)) (h1 : k1 = k) : dAndB f g ρ k = some (false, k) := by
  subst h1
  cases b with
  | true => exact and_t hf hg
  | false => exact and_f hf
theorem if_t {c : SemB} {f g : Sem} {ρ : Env} {k k' : Nat} (h : c ρ k = some (true, k')) : dIf c f g ρ k = f ρ k' := by simp only [dIf, M.bind, h]
theorem tup1_ok {f : Sem} {ρ : Env} {k k1 : Nat} {a : D} (h1 : f ρ k = some (a, k1)) : dTup (dCons f dNil) ρ k = some (.tup [a], k1) := by
  have t : lim 1 = true := rfl
  simp only [dTup, dCons, dNil, M.bind, M.pure, M.lift, h1, List.length_cons, List.length_nil, Nat.zero_add, Nat.reduceAdd, t, if_true]
theorem max_lt {ρ : Env} {k : Nat} {u : Ve} (h7 : ρ[7]? = some (.val u.D)) (hl : 15 < ρ.length) (bu : u.x.natAbs ≤ 2 ∧ u.y.natAbs ≤ 2 ∧ u.z.natAbs ≤ 2) :
    dBinB cLt (dBi bMax (dCons (dLc [15] (dItems (dV 7)) (tgName 15) (dTrue) (dBi bAbs (dCons (dV 15) (dNil)))) (dNil))) (dC (.int 1000)) ρ k = some (true, k) := by
  have g15 : ∀ d : D, ((ρ.set 15 .no).set 15 (.val d))[15]? = some (.val d) := fun d => by rw [List.getElem?_set_self (by rw [List.length_set]; exact hl)]
  have ab : ∀ i : Int, dBi bAbs (dCons (dV 15) (dNil)) ((ρ.set 15 .no).set 15 (.val (.int i))) k = some (.int (if i < 0 then -i else i), k) := fun i => bi_ok (cons1_ok (dv (g15 _) k)) rfl
  have lc := lc_ok (vs := [15]) (ρ := ρ) (k := k) (it := dItems (dV 7)) (ds := [.int u.x, .int u.y, .int u.z]) (items_ok (dv h7 k) rfl)
    (lc_put (c := dV 0) (ρ' := []) (ab u.x) (lc_put (c := dV 0) (ρ' := []) (ab u.y) (lc_put (c := dV 0) (ρ' := []) (ab u.z) lc_nil))) rfl
  have mx := bi_ok (g := bMax) (cons1_ok lc) (d := .int (maxI [if u.x < 0 then -u.x else u.x, if u.y < 0 then -u.y else u.y, if u.z < 0 then -u.z else u.z])) rfl
  have hm := (foldmax [if u.y < 0 then -u.y else u.y, if u.z < 0 then -u.z else u.z] (if u.x < 0 then -u.x else u.x)).1
  have hm2 : maxI [if u.x < 0 then -u.x else u.x, if u.y < 0 then -u.y else u.y, if u.z < 0 then -u.z else u.z] < 1000 := by
    change maxI [if u.x < 0 then -u.x else u.x, if u.y < 0 then -u.y else u.y, if u.z < 0 then -u.z else u.z] ∈ _ at hm
    obtain ⟨b1, b2, b3⟩ := bu
    simp only [List.mem_cons, List.not_mem_nil, or_false] at hm
    rcases hm with e | e | e <;> rw [e] <;> split <;> omega
  exact binB_ok mx rfl (by simp only [cLt]; rw [decide_eq_true hm2])
def sm1 (t : Int) (u : Ve) : Qn := ⟨1 + t, u.x, u.y, u.z⟩
theorem sm1_v {t l : Int} {u : Ve} {q : Qn} (h : q.v = Ve.sm l u) : ((sm1 t u).mul q).v = Ve.sm ((1 + t) * l + q.a) u ∧ (sm1 t u).mul q = q.mul (sm1 t u) := by
  obtain ⟨a, b, c, d⟩ := q
  simp only [Qn.v, Ve.sm, Ve.mk.injEq] at h
  obtain ⟨rfl, rfl, rfl⟩ := h
  refine ⟨?_, ?_⟩
  · simp only [Qn.v, Qn.mul, sm1, Ve.sm, Ve.mk.injEq]; refine ⟨?_, ?_, ?_⟩ <;> grind
  · simp only [Qn.mul, sm1, Qn.mk.injEq]; refine ⟨?_, ?_, ?_, ?_⟩ <;> grind
theorem Qn.Sm.bdn {q : Qn} {n b : Nat} (h : q.nz) (s : q.Sm n) (hb : 4 * (n * n) < 2 ^ b) : Sky.Bd b q.N := by
  have hp := Qn.pos h
  have := s.N
  exact bd_of (4 * (n * n)) (by omega) hb
theorem r3 (o f : Int) : o * (f * f) = f * (o * f) := by grind
theorem fl_in {q : Qn} {u : Ve} {l o f : Int} (h : q.v = Ve.sm l u) (nz : u.nz) (hf : f = u.q.N) : ((Fl u).mul (q.R.mul (Fl u))).sc o = q.R.sc (f * (o * f)) := by
  rw [← m_assoc, fl_comm h, m_assoc, fl_fl nz, m_scr, mul_I, sc_sc, ← hf, r3]
theorem l8n (h7 : ρ[7]? = some (.val .non)) : L8 ns ρ k = some (.nx ρ, k) := (sif_f (binB_ok (dv h7 k) rfl rfl)).trans rfl
theorem l8y {u : Ve} {l : Int} (hn : ns.length ≤ 63) (r : Rd q1 q2 p) (hl0 : l ≠ 0) (hv : q1.v = Ve.sm l u) (pr : Prim u) (nz : u.nz) (bu : u.x.natAbs ≤ 2 ∧ u.y.natAbs ≤ 2 ∧ u.z.natAbs ≤ 2)
    (h1 : ρ[1]? = some (.val .drw)) (h3 : ρ[3]? = some (.val (one q1))) (h7 : ρ[7]? = some (.val u.D)) (hl : 15 < ρ.length) : ∃ k' d, L8 ns ρ k = some (.nx ((ρ.set 9 (.val (TN (Fl u) u.q.N))).set 10 (.val d)), k') := by
  have bd3 : u.Bd 2 := bd3_of (n := 2) bu (by decide)
  have s9 := asg_ok (i := 9) (c1_ok (dv h7 k) (glassB nz (by omega) (by omega) (by omega) k))
  generalize hρ : ρ.set 9 (.val (TN (Fl u) u.q.N)) = τ at *
  have t1 : τ[1]? = some (.val .drw) := by rw [← hρ, gs (by decide)]; exact h1
  have t3 : τ[3]? = some (.val (one q1)) := by rw [← hρ, gs (by decide)]; exact h3
  have t7 : τ[7]? = some (.val u.D) := by rw [← hρ, gs (by decide)]; exact h7
  have t9 : τ[9]? = some (.val (TN (Fl u) u.q.N)) := by rw [← hρ, List.getElem?_set_self (Nat.lt_trans (by decide) hl)]
  have tl : 15 < τ.length := by rw [← hρ, List.length_set]; exact hl
  have vF := fl_va nz
  have bF : Sky.Bd 6 u.q.N := by rw [fl_N]; exact (dot_bd bd3 bd3).mono (by decide)
  have f1 := thenB (k := k) vF r.v1 bF r.b1 (by decide)
  have f2 := thenB (k := k) (r.v1.mul vF) vF (r.b1.mul bF) bF (by decide)
  have vv := vF.mul (r.v1.mul vF)
  have X : dCall 2 F_then (dCons (dCall 2 F_then (dCons (dV 9) (dCons (dV 3) (dNil)))) (dCons (dV 9) (dNil))) τ k = some (TN ((Fl u).mul (q1.R.mul (Fl u))) (u.q.N * (q1.N * u.q.N)), k) := c2_ok (c2_ok (dv t9 k) (dv t3 k) f1) (dv t9 k) f2
  have e3 : dEqB eqT true (dCall 2 F_then (dCons (dCall 2 F_then (dCons (dV 9) (dCons (dV 3) (dNil)))) (dCons (dV 9) (dNil)))) (dV 3) τ k = some (false, k) := by
    exact turn_same X (dv t3 k) vv r.v1 (fl_in hv nz rfl)
  have e2 := turn_ne (neg := true) X (c1_ok (dv t3 k) (backB r.v1 r.b1 (by decide))) vv r.v1.tr
  have c1 := and_2f e2 e3 rfl
  have e5 := apply_is (n := 6) (n' := 2) (a := 1) (b := u.q.N) (p := u) (q := Ve.sm (-1) u) vF bF nz bd3 (by decide) (by decide) vF.p (by rw [sm_one]; exact fl_self u) (prim_neg pr) k
  have c2 : dEqB eqT true (dCall 2 F_apply (dCons (dV 9) (dCons (dV 7) (dNil)))) (dCall 1 F_opposite (dCons (dV 7) (dNil))) τ k = some (false, k) := ne_ve (c2_ok (dv t9 k) (dv t7 k) e5) (c1_ok (dv t7 k) (opp_prim nz pr bd3 (by decide) k))
  have f3 := thenB (k := k) vF vF bF bF (by decide)
  have c3 : dEqB eqT true (dCall 2 F_then (dCons (dV 9) (dCons (dV 9) (dNil)))) (dCall 0 F_no_turn dNil) τ k = some (false, k) := by
    refine turn_same (c2_ok (dv t9 k) (dv t9 k) f3) (c0_ok noT) (vF.mul vF) va_I9 ?_
    rw [fl_fl nz, sc_one]
  have dF : dt (Fl u) < 0 := by
    rw [(fl_sg u).eq]
    have := Int.mul_pos (Int.mul_pos vF.p vF.p) vF.p
    rw [Int.neg_one_mul]
    exact Int.neg_neg_of_pos this
  have c4 : dBinB cIsNot (dCall 1 F_axis_of (dCons (dV 9) (dNil))) (dC .non) τ k = some (false, k) := binB_ok (c1_ok (dv t9 k) (axis_mir vF bF (by decide) dF k)) rfl rfl
  obtain ⟨t, h0, h3', et⟩ := take_spec hn (m := 3) (k := k) (by decide)
  have nzs : (sm1 t u).nz := fun z => nz z.2
  have sms : (sm1 t u).Sm 3 := ⟨by simp only [sm1]; omega, by simp only [sm1]; omega, by simp only [sm1]; omega, by simp only [sm1]; omega⟩
  have tb := turn_byQ nzs ⟨by have := sms.a; omega, by have := sms.b; omega, by have := sms.c; omega, by have := sms.d; omega⟩ (k + 1)
  have vS := Qn.va nzs
  have bS : Sky.Bd 6 (sm1 t u).N := sms.bdn nzs (by decide)
  have s10 := asg_ok (i := 10) (f := dIf (dBinB cLt (dBi bMax (dCons (dLc [15] (dItems (dV 7)) (tgName 15) (dTrue) (dBi bAbs (dCons (dV 15) (dNil)))) (dNil))) (dC (.int 1000))) (dCall 1 F_turn_by (dCons (dBin D.add (dTup (dCons (dBin D.add (dC (.int 1)) (dCall 2 (F__law_take ns) (dCons (dV 1) (dCons (dC (.int 3)) (dNil))))) (dNil))) (dV 7)) (dNil))) (dV 3)) (ρ := τ)
    ((if_t (max_lt (k := k) t7 tl bu)).trans (c1_ok (bin_ok (tup1_ok (bin_ok (x := .int 1) rfl (c2_ok (dv t1 k) rfl et) rfl)) (dv t7 _) rfl) tb))
  generalize hτ : τ.set 10 (.val (TN (sm1 t u).R (sm1 t u).N)) = θ at *
  have g3 : θ[3]? = some (.val (one q1)) := by rw [← hτ, gs (by decide)]; exact t3
  have g7 : θ[7]? = some (.val u.D) := by rw [← hτ, gs (by decide)]; exact t7
  have g10 : θ[10]? = some (.val (TN (sm1 t u).R (sm1 t u).N)) := by rw [← hτ, List.getElem?_set_self (Nat.lt_trans (by decide) tl)]
  have a1 := thenB (k := k + 1) r.v1 vS r.b1 bS (by decide)
  have a2 := thenB (k := k + 1) vS r.v1 bS r.b1 (by decide)
  obtain ⟨w1, w2⟩ := sm1_v (t := t) hv
  have c5 : dEqB eqT true (dCall 2 F_then (dCons (dV 3) (dCons (dV 10) (dNil)))) (dCall 2 F_then (dCons (dV 10) (dCons (dV 3) (dNil)))) θ (k + 1) = some (false, k + 1) := by
    refine turn_same (c2_ok (dv g3 _) (dv g10 _) a1) (c2_ok (dv g10 _) (dv g3 _) a2) (vS.mul r.v1) (r.v1.mul vS) ?_
    rw [Qn.R_mul, Qn.R_mul, w2]; exact congrArg _ (Int.mul_comm _ _)
  have nzm : ((sm1 t u).mul q1).nz := Qn.nz_of (by rw [Qn.N_mul]; exact Int.mul_pos vS.p r.v1.p)
  have bm : ((sm1 t u).mul q1).N < 1048576 := by
    rw [Qn.N_mul]
    have z1 := sms.N; have z2 := r.s1.N; have z3 := vS.p; have z4 := r.v1.p
    have := Int.mul_le_mul z1 z2 (Int.le_of_lt z4) (by decide)
    exact Int.lt_of_le_of_lt this (by decide)
  have ae : TN ((sm1 t u).R.mul q1.R) ((sm1 t u).N * q1.N) = TN ((sm1 t u).mul q1).R ((sm1 t u).mul q1).N := by rw [Qn.R_mul, Qn.N_mul]
  rw [ae] at a1
  obtain ⟨x1, x2⟩ := axisQ nzm bm (k + 1)
  have tt : dTup (dCons (dV 7) (dCons (dCall 1 F_opposite (dCons (dV 7) (dNil))) (dCons (dC .non) (dNil)))) θ (k + 1) = some (.tup [u.D, (Ve.sm (-1) u).D, .non], k + 1) := tup3_ok (dv g7 _) (c1_ok (dv g7 _) (opp_prim nz pr bd3 (by decide) _)) rfl
  have c6 : dBinB cNotIn (dCall 1 F_axis_of (dCons (dCall 2 F_then (dCons (dV 3) (dCons (dV 10) (dNil)))) (dNil))) (dTup (dCons (dV 7) (dCons (dCall 1 F_opposite (dCons (dV 7) (dNil))) (dCons (dC .non) (dNil))))) θ (k + 1) = some (false, k + 1) := by
    by_cases z : ((sm1 t u).mul q1).v.nz
    · obtain ⟨a, l', y1, y2, y3, y4, y5⟩ := x2 z
      have cf : (1 + t) * l + q1.a ≠ 0 := fun e => by
        rw [w1, e] at z
        exact z (by simp only [Ve.sm, Int.zero_mul]; exact ⟨trivial, trivial, trivial⟩)
      refine binB_ok (c1_ok (c2_ok (dv g3 _) (dv g10 _) a1) y1) tt ?_
      rw [in_ve3]
      rcases prim_pm y2 cf y4 pr (y3.symm.trans w1) with e | e <;> rw [e] <;> simp
    · exact binB_ok (c1_ok (c2_ok (dv g3 _) (dv g10 _) a1) (x1 z)) tt (in_non3 _ _)
  refine ⟨k + 1, TN (sm1 t u).R (sm1 t u).N, ?_⟩
  unfold L8
  rw [sif_t (binB_ok (dv h7 k) rfl rfl), seq_nx s9, seq_nx ((sif_f (or_f c1 (or_f c2 (or_f c3 c4)))).trans rfl), seq_nx s10, seq_nx ((sif_f (or_f c5 c6)).trans rfl), hτ]
  rfl
end Sky

end
section
namespace Sky
open PySem PySem.Spec PyProof.Rows L2
variable {q1 q2 : Qn} {p r : Ve} {ns : List Int} {ρ : Env} {k : Nat}
theorem hand_e (a b : D) : byHand "either" a b = [a, b] := by simp [byHand, ne_ep, ne_em]
/-- the plain one and the mirrored one that take p and r to b and d -/
theorem img_fl {m : M9} {w g1 g2 : Int} {p r b d : Ve} (v : Va m w) (hn : (p.cr r).nz) (h1 : 0 < g1) (h2 : 0 < g2) (e1 : m.on p = Ve.sm g1 b) (e2 : m.on r = Ve.sm g2 d) :
    Img p r b d m w g1 g2 ∧ Img p r b d (m.mul (Fl (p.cr r))) (w * (p.cr r).q.N) ((p.cr r).q.N * g1) ((p.cr r).q.N * g2) := by
  have vf := fl_va hn
  refine ⟨⟨v, h1, h2, e1, e2⟩, ⟨v.mul vf, Int.mul_pos vf.p h1, Int.mul_pos vf.p h2, ?_, ?_⟩⟩
  · rw [on_mul, fl_perp (cr_dot_l p r), on_sm, e1, sm_sm]
  · rw [on_mul, fl_perp (cr_dot_r p r), on_sm, e2, sm_sm]
theorem sg_mul {m n : M9} {w u s t : Int} (h : Sg m w s) (h2 : Sg n u t) : Sg (m.mul n) (w * u) (s * t) := by
  refine ⟨?_, ?_⟩
  · rcases h.pm with e | e <;> rcases h2.pm with e2 | e2 <;> rw [e, e2] <;> decide
  · rw [dt_mul, h.eq, h2.eq]; grind
theorem sg_tr {m : M9} {w s : Int} (h : Sg m w s) : Sg m.tr w s := ⟨h.pm, by rw [dt_tr]; exact h.eq⟩
theorem sg_sc {m : M9} {w s c : Int} (h : Sg m w s) : Sg (m.sc c) (c * w) s := ⟨h.pm, by rw [dt_sc, h.eq]; grind⟩
theorem sg_cj {m n : M9} {w u s : Int} (h : Sg m w s) (h2 : Sg n u 1) : Sg (m.cj n) (u * (w * u)) s := by
  have := sg_mul h2 (sg_mul h (sg_tr h2))
  rw [Int.mul_one, Int.one_mul] at this
  exact this
/-- seen from w over u: what m does to p and r is done to a and a' -/
theorem img_cj {m w : M9} {x u g1 g1' g2 g2' g3 g3' : Int} {p r a a' b b' c c' : Ve} (vm : Va m x) (v : Va w u) (h1 : 0 < g1) (h1' : 0 < g1') (h2 : 0 < g2) (h2' : 0 < g2') (h3 : 0 < g3) (h3' : 0 < g3')
    (e1 : w.on p = Ve.sm g1 a) (e1' : w.on r = Ve.sm g1' a') (e2 : m.on p = Ve.sm g2 b) (e2' : m.on r = Ve.sm g2' b') (e3 : w.on b = Ve.sm g3 c) (e3' : w.on b' = Ve.sm g3' c') :
    Img a a' c c' ((m.cj w).sc (g1 * g1')) (g1 * g1' * (u * (x * u))) (g1' * (u * u * (g2 * g3))) (g1 * (u * u * (g2' * g3'))) := by
  have uu := Int.mul_pos v.p v.p
  refine ⟨(va_cj vm v).sc (Int.mul_pos h1 h1'), Int.mul_pos h1' (Int.mul_pos uu (Int.mul_pos h2 h3)), Int.mul_pos h1 (Int.mul_pos uu (Int.mul_pos h2' h3')), ?_, ?_⟩
  · rw [sc_on, Int.mul_comm g1 g1', ← sm_sm, cj_on v e1, e2, on_sm, e3, sm_sm, sm_sm, sm_sm]; congr 1; grind
  · rw [sc_on, ← sm_sm, cj_on v e1', e2', on_sm, e3', sm_sm, sm_sm, sm_sm]; congr 1; grind
theorem l9 (hn : ns.length ≤ 63) (h1 : ρ[1]? = some (.val .drw)) : ∃ (r : Ve) (k' : Nat), r.nz ∧ r.Bd 4 ∧ L9 ns ρ k = some (.nx (ρ.set 11 (.val r.D)), k') := by
  obtain ⟨r, k', z, b, _, e⟩ := skyV hn (k := k)
  exact ⟨r, k', z, b, asg_ok (c1_ok (dv h1 k) e)⟩
theorem ix_0 {f : Sem} {x y : D} (h : f ρ k = some (.lst [x, y], k)) : dBin D.ix f (dC (.int 0)) ρ k = some (x, k) := bin_ok h (y := .int 0) rfl rfl
theorem item_turn {m : M9} {w : Int} (v : Va m w) : eqItem eqT (TN m w) (TN m w) k = some (true, k) := by
  have e := eqB (k := k) v v
  rw [decide_eq_true rfl] at e
  unfold TN at e ⊢
  simp only [eqItem, eqT, e, Nat.beq_refl, Bool.true_or, Bool.and_self, Bool.and_true]
theorem leq_same {f g : Sem} {m n : M9} {w u : Int} (hf : f ρ k = some (.lst [TN m w, TN n u], k)) (hg : g ρ k = some (.lst [TN m w, TN n u], k)) (v : Va m w) (v2 : Va n u) : dM2 true (leqD eqT) f g ρ k = some (false, k) := by
  have e : leqD eqT (.lst [TN m w, TN n u]) (.lst [TN m w, TN n u]) k = some (true, k) := by
    simp only [leqD, eqItems, M.bind, item_turn v, item_turn v2, M.pure, if_true]
  simp only [dM2, M.bind, hf, hg, e, M.pure, Bool.xor_self]
theorem l10 (R : Rd q1 q2 p) (zr : r.nz) (br : r.Bd 4) {a b c a' b' c' : Ve} {g1 g2 g3 g1' g2' g3' : Int} (h : Wh q1 q2 p a b c g1 g2 g3) (h' : Wh q1 q2 r a' b' c' g1' g2' g3')
    (h3 : ρ[3]? = some (.val (one q1))) (h4 : ρ[4]? = some (.val (one q2))) (h5 : ρ[5]? = some (.val p.D)) (h11 : ρ[11]? = some (.val r.D)) (hl : 16 < ρ.length) : ∃ d e, L10 ns ρ k = some (.nx ((ρ.set 12 d).set 13 e), k) := by
  have li : F_is_on_line [p.D, r.D] k = some (.bl (decide ((p.cr r).x = 0 ∧ (p.cr r).y = 0 ∧ (p.cr r).z = 0)), k) := lineB (k := k) R.b3 br (by decide)
  by_cases z : (p.cr r).nz
  · have li' : dNotB (dTru (dCall 2 F_is_on_line (dCons (dV 5) (dCons (dV 11) (dNil))))) ρ k = some (true, k) := by
      have := not_ok (tru_ok (c2_ok (dv h5 k) (dv h11 k) li))
      rw [this, decide_eq_false z]; rfl
    have vf := fl_va z
    obtain ⟨i1, i2⟩ := img_fl R.v1 z h.p2 h'.p2 h.f2 h'.f2
    have sg1 : Sg q1.R q1.N 1 := Qn.sg
    have sg2 : Sg (q1.R.mul (Fl (p.cr r))) (q1.N * (p.cr r).q.N) (-1) := by
      have := sg_mul sg1 (fl_sg (p.cr r)); rw [Int.one_mul] at this; exact this
    have bp := R.b3.mono (show 4 ≤ 18 by decide)
    have br' := br.mono (show 4 ≤ 18 by decide)
    have t1 := betweenB (h := "either") i1 sg1 i2 sg2 z bp br' h.b2 h'.b2 (by decide) (.inr (.inr rfl)) k
    rw [hand_e] at t1
    -- what the mirrored one does
    have m1 : (q1.R.mul (Fl (p.cr r))).on p = Ve.sm ((p.cr r).q.N * g2) b := i2.p
    have m2 : (q1.R.mul (Fl (p.cr r))).on r = Ve.sm ((p.cr r).q.N * g2') b' := i2.q
    have j1 := img_cj R.v1 R.v2 h.p1 h'.p1 h.p2 h'.p2 h.p3 h'.p3 h.f1 h'.f1 h.f2 h'.f2 h.f3 h'.f3
    have j2 := img_cj i2.v R.v2 h.p1 h'.p1 i2.h1 i2.h2 h.p3 h'.p3 h.f1 h'.f1 m1 m2 h.f3 h'.f3
    have gg := Int.mul_pos h.p1 h'.p1
    have sj1 : Sg ((q1.R.cj q2.R).sc (g1 * g1')) (g1 * g1' * (q2.N * (q1.N * q2.N))) 1 := sg_sc (sg_cj sg1 Qn.sg)
    have sj2 : Sg (((q1.R.mul (Fl (p.cr r))).cj q2.R).sc (g1 * g1')) (g1 * g1' * (q2.N * (q1.N * (p.cr r).q.N * q2.N))) (-1) := sg_sc (sg_cj sg2 Qn.sg)
    have za : (a.cr a').nz := img_cr (g := (Qn.sg (q := q2))) (i := ⟨R.v2, h.p1, h'.p1, h.f1, h'.f1⟩) z
    have t2 := betweenB (h := "either") j1 sj1 j2 sj2 za h.b1 h'.b1 h.b3 h'.b3 (by decide) (.inr (.inr rfl)) k
    rw [hand_e, TN_sc gg, TN_sc gg] at t2
    have s12 : sAsg (dCall 5 F_turns_between (dCons (dV 5) (dCons (dV 11) (dCons (dCall 2 F_apply (dCons (dV 3) (dCons (dV 5) (dNil)))) (dCons (dCall 2 F_apply (dCons (dV 3) (dCons (dV 11) (dNil)))) (dCons (dC (.str "either")) (dNil))))))) (tgName 12) ρ k = some (.nx (ρ.set 12 (.val (.lst [TN q1.R q1.N, TN (q1.R.mul (Fl (p.cr r))) (q1.N * (p.cr r).q.N)]))), k) :=
      asg_ok (c5_ok (dv h5 k) (dv h11 k) (c2_ok (dv h3 k) (dv h5 k) (h.e2 k)) (c2_ok (dv h3 k) (dv h11 k) (h'.e2 k)) rfl t1)
    generalize hτ : ρ.set 12 (.val (.lst [TN q1.R q1.N, TN (q1.R.mul (Fl (p.cr r))) (q1.N * (p.cr r).q.N)])) = τ at *
    have y3 : τ[3]? = some (.val (one q1)) := by rw [← hτ, gs (by decide)]; exact h3
    have y4 : τ[4]? = some (.val (one q2)) := by rw [← hτ, gs (by decide)]; exact h4
    have y5 : τ[5]? = some (.val p.D) := by rw [← hτ, gs (by decide)]; exact h5
    have y11 : τ[11]? = some (.val r.D) := by rw [← hτ, gs (by decide)]; exact h11
    have y12 : τ[12]? = some (.val (.lst [TN q1.R q1.N, TN (q1.R.mul (Fl (p.cr r))) (q1.N * (p.cr r).q.N)])) := by rw [← hτ, List.getElem?_set_self (Nat.lt_trans (by decide) hl)]
    have yl : 16 < τ.length := by rw [← hτ, List.length_set]; exact hl
    have s13 := asg_ok (i := 13) (c5_ok (F := F_turns_between) (ρ := τ) (c2_ok (dv y4 k) (dv y5 k) (h.e1 k)) (c2_ok (dv y4 k) (dv y11 k) (h'.e1 k)) (c2_ok (dv y4 k) (c2_ok (dv y3 k) (dv y5 k) (h.e2 k)) (h.e3 k)) (c2_ok (dv y4 k) (c2_ok (dv y3 k) (dv y11 k) (h'.e2 k)) (h'.e3 k)) (f5 := dC (.str "either")) rfl t2)
    generalize hθ : τ.set 13 (.val (.lst [TN (q1.R.cj q2.R) (q2.N * (q1.N * q2.N)), TN ((q1.R.mul (Fl (p.cr r))).cj q2.R) (q2.N * (q1.N * (p.cr r).q.N * q2.N))])) = θ at *
    have x3 : θ[3]? = some (.val (one q1)) := by rw [← hθ, gs (by decide)]; exact y3
    have x4 : θ[4]? = some (.val (one q2)) := by rw [← hθ, gs (by decide)]; exact y4
    have x5 : θ[5]? = some (.val p.D) := by rw [← hθ, gs (by decide)]; exact y5
    have x11 : θ[11]? = some (.val r.D) := by rw [← hθ, gs (by decide)]; exact y11
    have x12 : θ[12]? = some (.val (.lst [TN q1.R q1.N, TN (q1.R.mul (Fl (p.cr r))) (q1.N * (p.cr r).q.N)])) := by rw [← hθ, gs (by decide)]; exact y12
    have x13 : θ[13]? = some (.val (.lst [TN (q1.R.cj q2.R) (q2.N * (q1.N * q2.N)), TN ((q1.R.mul (Fl (p.cr r))).cj q2.R) (q2.N * (q1.N * (p.cr r).q.N * q2.N))])) := by rw [← hθ, List.getElem?_set_self (Nat.lt_trans (by decide) yl)]
    have xl : 16 < θ.length := by rw [← hθ, List.length_set]; exact yl
    have bn : Sky.Bd 40 (p.cr r).q.N := by rw [fl_N]; exact (dot_bd (cr_bd R.b3 br) (cr_bd R.b3 br)).mono (by decide)
    -- each of there, seen from way
    have each : ∀ (m : M9) (w : Int) (bb : Nat), Va m w → Sky.Bd bb w → bb ≤ 100 → dCall 2 F_then (dCons (dCall 2 F_then (dCons (dCall 1 F_back (dCons (dV 4) (dNil))) (dCons (dV 16) (dNil)))) (dCons (dV 4) (dNil))) ((θ.set 16 .no).set 16 (.val (TN m w))) k = some (TN (m.cj q2.R) (q2.N * (w * q2.N)), k) := fun m w bb vm bm hb => by
      have z4 : ((θ.set 16 .no).set 16 (.val (TN m w)))[4]? = some (.val (one q2)) := by rw [gs (by decide), gs (by decide)]; exact x4
      have z16 : ((θ.set 16 .no).set 16 (.val (TN m w)))[16]? = some (.val (TN m w)) := by rw [List.getElem?_set_self (by rw [List.length_set]; exact xl)]
      obtain ⟨c1, c2, c3⟩ := cj_call vm R.v2 bm R.b2 (by omega) k
      exact c2_ok (c2_ok (c1_ok (dv z4 k) c1) (dv z16 k) c2) (dv z4 k) c3
    have lc := lc_ok (vs := [16]) (ρ := θ) (k := k) (it := dItems (dV 12)) (items_ok (dv x12 k) rfl) (lc_put (c := dV 0) (ρ' := []) (each _ _ 5 R.v1 R.b1 (by decide)) (lc_put (c := dV 0) (ρ' := []) (each _ _ (5 + 40) i2.v (R.b1.mul bn) (by decide)) lc_nil)) rfl
    have c1 := leq_same lc (dv x13 k) R.vs (va_cj i2.v R.v2)
    have c2 : dEqB eqT true (dBin D.ix (dV 12) (dC (.int 0))) (dV 3) θ k = some (false, k) := turn_same (ix_0 (dv x12 k)) (dv x3 k) R.v1 R.v1 rfl
    obtain ⟨nn, g, en, _⟩ := apply_ve (k := k) R.v1 R.b1 z (cr_bd R.b3 br) (by decide)
    have cr : F_cross [p.D, r.D] k = some ((p.cr r).D, k) := crossB R.b3 br (by decide)
    have c3 : dEqB eqT true (dCall 2 F_apply (dCons (dV 3) (dCons (dCall 2 F_cross (dCons (dV 5) (dCons (dV 11) (dNil)))) (dNil)))) (dCall 2 F_apply (dCons (dBin D.ix (dV 12) (dC (.int 0))) (dCons (dCall 2 F_cross (dCons (dV 5) (dCons (dV 11) (dNil)))) (dNil)))) θ k = some (false, k) :=
      ne_ve (c2_ok (dv x3 k) (c2_ok (dv x5 k) (dv x11 k) cr) (en k)) (c2_ok (ix_0 (dv x12 k)) (c2_ok (dv x5 k) (dv x11 k) cr) (en k))
    refine ⟨.val (.lst [TN q1.R q1.N, TN (q1.R.mul (Fl (p.cr r))) (q1.N * (p.cr r).q.N)]), .val (.lst [TN (q1.R.cj q2.R) (q2.N * (q1.N * q2.N)), TN ((q1.R.mul (Fl (p.cr r))).cj q2.R) (q2.N * (q1.N * (p.cr r).q.N * q2.N))]), ?_⟩
    rw [hτ, hθ]
    unfold L10
    rw [sif_t li', seq_nx s12, seq_nx s13, seq_nx ((sif_f (or_f c1 (or_f c2 c3))).trans rfl)]
    rfl
  · have li' : dNotB (dTru (dCall 2 F_is_on_line (dCons (dV 5) (dCons (dV 11) (dNil))))) ρ k = some (false, k) := by
      have := not_ok (tru_ok (c2_ok (dv h5 k) (dv h11 k) li))
      rw [this, decide_eq_true (Classical.not_not.mp z)]; rfl
    have e1 : ∃ d, ρ[12]? = some d := ⟨_, List.getElem?_eq_getElem (Nat.lt_trans (by decide) hl)⟩
    have e2 : ∃ d, ρ[13]? = some d := ⟨_, List.getElem?_eq_getElem (Nat.lt_trans (by decide) hl)⟩
    obtain ⟨d, hd⟩ := e1
    obtain ⟨e, he⟩ := e2
    have s1 : ρ.set 12 d = ρ := by
      obtain ⟨x, y⟩ := List.getElem?_eq_some_iff.mp hd; rw [← y, List.set_getElem_self]
    have s2 : ρ.set 13 e = ρ := by
      obtain ⟨x, y⟩ := List.getElem?_eq_some_iff.mp he; rw [← y, List.set_getElem_self]
    refine ⟨d, e, ?_⟩
    rw [s1, s2]
    exact (sif_f li').trans rfl
end Sky

end
section
namespace Sky
open PySem PySem.Spec PyProof.Rows L2
variable {ns : List Int}
def Lb (ns : List Int) : SemS := sSeq (L0 ns) (sSeq (L1 ns) (sSeq (L2 ns) (sSeq (L3 ns) (sSeq (L4 ns) (sSeq (L5 ns) (sSeq (L6 ns) (sSeq (L7 ns) (sSeq (L8 ns) (sSeq (L9 ns) (sSeq (L10 ns) (sNext)))))))))))
theorem law_eq (ns : List Int) : S_law ns = sSeq (sFor (dRng (dCons (dC (.int 2)) dNil)) (tgName 2) (Lb ns)) (sSeq (sRet (dC (.bl true))) (sNext)) := rfl
theorem ge {ρ : Env} {i : Nat} {s : Slot} (h : i < ρ.length) : (ρ.set i s)[i]? = some s := List.getElem?_set_self h
theorem body (hn : ns.length ≤ 63) {ρ : Env} {k : Nat} (hl : ρ.length = 17) (h0 : ρ[0]? = some (.val .scr)) (h1 : ρ[1]? = some (.val .drw)) : ∃ ρ' k', Lb ns ρ k = some (.nx ρ', k') ∧ ρ'.length = 17 ∧ ρ'[0]? = some (.val .scr) ∧ ρ'[1]? = some (.val .drw) := by
  obtain ⟨q1, q2, p, k1, R, e0⟩ := l0 hn h1 (k := k)
  generalize ha : ((ρ.set 3 (.val (one q1))).set 4 (.val (one q2))).set 5 (.val p.D) = a at e0
  have la : a.length = 17 := by rw [← ha]; simp [hl]
  have a0 : a[0]? = some (.val .scr) := by rw [← ha, gs (by decide), gs (by decide), gs (by decide)]; exact h0
  have a1 : a[1]? = some (.val .drw) := by rw [← ha, gs (by decide), gs (by decide), gs (by decide)]; exact h1
  have a3 : a[3]? = some (.val (one q1)) := by rw [← ha, gs (by decide), gs (by decide), ge (by omega)]
  have a4 : a[4]? = some (.val (one q2)) := by rw [← ha, gs (by decide), ge (by simp [hl])]
  have a5 : a[5]? = some (.val p.D) := by rw [← ha, ge (by simp [hl])]
  clear ha
  have e1 := l1 (ns := ns) (k := k1) R a3 a4
  generalize hb : a.set 6 (.val (seen q1 q2)) = b at e1
  have lb : b.length = 17 := by rw [← hb]; simp [la]
  have b0 : b[0]? = some (.val .scr) := by rw [← hb, gs (by decide)]; exact a0
  have b1 : b[1]? = some (.val .drw) := by rw [← hb, gs (by decide)]; exact a1
  have b3 : b[3]? = some (.val (one q1)) := by rw [← hb, gs (by decide)]; exact a3
  have b4 : b[4]? = some (.val (one q2)) := by rw [← hb, gs (by decide)]; exact a4
  have b5 : b[5]? = some (.val p.D) := by rw [← hb, gs (by decide)]; exact a5
  have b6 : b[6]? = some (.val (seen q1 q2)) := by rw [← hb, ge (by omega)]
  clear hb
  obtain ⟨ax, ak⟩ := axk_of R k1
  have e2 := l2 (ns := ns) (k := k1) ak b3
  generalize hc : b.set 7 (.val ax) = c at e2
  have lc : c.length = 17 := by rw [← hc]; simp [lb]
  have c0 : c[0]? = some (.val .scr) := by rw [← hc, gs (by decide)]; exact b0
  have c1 : c[1]? = some (.val .drw) := by rw [← hc, gs (by decide)]; exact b1
  have c3 : c[3]? = some (.val (one q1)) := by rw [← hc, gs (by decide)]; exact b3
  have c4 : c[4]? = some (.val (one q2)) := by rw [← hc, gs (by decide)]; exact b4
  have c5 : c[5]? = some (.val p.D) := by rw [← hc, gs (by decide)]; exact b5
  have c6 : c[6]? = some (.val (seen q1 q2)) := by rw [← hc, gs (by decide)]; exact b6
  have c7 : c[7]? = some (.val ax) := by rw [← hc, ge (by omega)]
  clear hc
  have e3 := l3 (ns := ns) (k := k1) R ak c3 c6 c7
  have e4 := l4 (ns := ns) (k := k1) R ak c4 c6 c7
  obtain ⟨va, vb, vc, g1, g2, g3, W⟩ := wh_of R.n1 R.n2 R.s1 R.s2 R.n3 R.b3
  have e5 := l5 (ns := ns) (k := k1) R W c3 c4 c5 c6 (by omega)
  have e6 := l6 (ns := ns) (k := k1) R c3
  generalize hd : c.set 8 (.val (flatD q1)) = d at e6
  have ld : d.length = 17 := by rw [← hd]; simp [lc]
  have d0 : d[0]? = some (.val .scr) := by rw [← hd, gs (by decide)]; exact c0
  have d1 : d[1]? = some (.val .drw) := by rw [← hd, gs (by decide)]; exact c1
  have d3 : d[3]? = some (.val (one q1)) := by rw [← hd, gs (by decide)]; exact c3
  have d4 : d[4]? = some (.val (one q2)) := by rw [← hd, gs (by decide)]; exact c4
  have d5 : d[5]? = some (.val p.D) := by rw [← hd, gs (by decide)]; exact c5
  have d7 : d[7]? = some (.val ax) := by rw [← hd, gs (by decide)]; exact c7
  have d8 : d[8]? = some (.val (flatD q1)) := by rw [← hd, ge (by omega)]
  clear hd
  have e7 := l7 (ns := ns) (k := k1) R W d3 d5 d8
  have mid : ∃ f k2, L8 ns d k1 = some (.nx f, k2) ∧ f.length = 17 ∧ f[0]? = some (.val .scr) ∧ f[1]? = some (.val .drw) ∧ f[3]? = some (.val (one q1)) ∧ f[4]? = some (.val (one q2)) ∧ f[5]? = some (.val p.D) := by
    cases ak with
    | no h e x1 x2 => subst e; exact ⟨d, k1, l8n d7, ld, d0, d1, d3, d4, d5⟩
    | yes u x y l e hl0 hv pr nz bu x1 x2 x3 x4 xy =>
      subst e
      obtain ⟨k2, z, e8⟩ := l8y (k := k1) hn R hl0 hv pr nz bu d1 d3 d7 (by omega)
      exact ⟨_, k2, e8, by simp [ld], by rw [gs (by decide), gs (by decide)]; exact d0, by rw [gs (by decide), gs (by decide)]; exact d1, by rw [gs (by decide), gs (by decide)]; exact d3, by rw [gs (by decide), gs (by decide)]; exact d4, by rw [gs (by decide), gs (by decide)]; exact d5⟩
  obtain ⟨f, k2, e8, lf, f0, f1, f3, f4, f5⟩ := mid
  obtain ⟨r, k3, zr, br, e9⟩ := l9 (k := k2) hn f1
  generalize hg : f.set 11 (.val r.D) = g at e9
  have lg : g.length = 17 := by rw [← hg]; simp [lf]
  have x0 : g[0]? = some (.val .scr) := by rw [← hg, gs (by decide)]; exact f0
  have x1 : g[1]? = some (.val .drw) := by rw [← hg, gs (by decide)]; exact f1
  have x3 : g[3]? = some (.val (one q1)) := by rw [← hg, gs (by decide)]; exact f3
  have x4 : g[4]? = some (.val (one q2)) := by rw [← hg, gs (by decide)]; exact f4
  have x5 : g[5]? = some (.val p.D) := by rw [← hg, gs (by decide)]; exact f5
  have x11 : g[11]? = some (.val r.D) := by rw [← hg, ge (by omega)]
  clear hg
  obtain ⟨va', vb', vc', g1', g2', g3', W'⟩ := wh_of R.n1 R.n2 R.s1 R.s2 zr br
  obtain ⟨y, z, e10⟩ := l10 (ns := ns) (k := k3) R zr br W W' x3 x4 x5 x11 (by omega)
  refine ⟨(g.set 12 y).set 13 z, k3, ?_, by simp [lg], by rw [gs (by decide), gs (by decide)]; exact x0, by rw [gs (by decide), gs (by decide)]; exact x1⟩
  unfold Lb
  rw [seq_nx e0, seq_nx e1, seq_nx e2, seq_nx e3, seq_nx e4, seq_nx e5, seq_nx e6, seq_nx e7, seq_nx e8, seq_nx e9, seq_nx e10]
  rfl
theorem loop (hn : ns.length ≤ 63) : ∀ (ds : List D) (ρ : Env) (k : Nat), ρ.length = 17 → ρ[0]? = some (.val .scr) → ρ[1]? = some (.val .drw) → ∃ ρ' k', forLoop (tgName 2) (Lb ns) ds ρ k = some (.nx ρ', k') := by
  intro ds
  induction ds with
  | nil => intro ρ k _ _ _; exact ⟨ρ, k, rfl⟩
  | cons d ds ih =>
    intro ρ k hl h0 h1
    obtain ⟨ρ', k', e, q1, q2, q3⟩ := body hn (k := k) (ρ := ρ.set 2 (.val d)) (by rw [List.length_set]; exact hl) (by rw [gs (by decide)]; exact h0) (by rw [gs (by decide)]; exact h1)
    obtain ⟨ρ2, k2, e2⟩ := ih ρ' k' q1 q2 q3
    refine ⟨ρ2, k2, ?_⟩
    unfold forLoop
    simp only [put_name, M.bind, e]
    exact e2
theorem plain (ns : List Int) (hn : ns.length ≤ 63) : ∃ k', S_law ns E_law 0 = some (.ret (.bl true), k') := by
  obtain ⟨ρ', k', e⟩ := loop hn (rangeD 0 2) E_law 0 rfl rfl rfl
  refine ⟨k', ?_⟩
  rw [law_eq]
  have hr : sFor (dRng (dCons (dC (.int 2)) dNil)) (tgName 2) (Lb ns) E_law 0 = some (.nx ρ', k') := by
    rw [← e]; rfl
  rw [seq_nx hr]
  rfl
end Sky

end
section
theorem PySem.Challenge.cw_skyplaced_k94_turns_seen_from_turns_holds : PySem.Challenge.rw_skyplaced_k94_turns_seen_from_turns.Holds :=
  Sky.law_holds Sky.plain


end
