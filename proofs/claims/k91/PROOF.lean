import PyProof.Rows.All
import Wide.All
import OpenK.AllK
import Wide.FinOn
import HandS.ForMost
import HandS.Exc
import HandS.Style
import HandS.Zip
import HandS.IsInst
import HandS.Wide
import HandS.Defaults
import HandS.TupAny
import HandS.Flow
import HandS.Walk
import HandS.OwnEq
import HandS.Head0
import HandS.Head1
import HandS.Head2
import HandS.HeadEnd
import HandS.HeadHook1
import HandS.HeadHook2
import HandS.TupLe
import HandS.Iter
import PyProof.Draws
import PyProof.EnumMake
import HandS.Deep
import HandS.Text
import PyProof.NeKinds
import HandS.NoneIn
import HandS.Conv
import HandS.Star
import HandS.TupSets
import HandS.List
import PyProof.Conv_bool
import PyProof.MeetsIn
import PyProof.Rows.Range3
import PyProof.ZipIter
import HandS.Zip0
import KE.KStateDown
import HandS.Words
import HandS.WordsExc
import PySem.Challenge.RW_skyplaced_k91_time_the_other_way
set_option Elab.async false
set_option linter.all false
set_option maxRecDepth 100000
section
-- SkyA: data D, how a value stands for a datum (Rep), how the heap grows (Step), a frame's slots (FI), readings by data (tD). 
namespace Sky
open PySem PySem.Spec PyProof.Rows L2

/-- the program's own classes -/
inductive Cn where
  | Turn | Book | Picture | Only | Two | Nowhere | Tells | Mistaken | Same | Differ | Way | Ways | NoWay | Apart | Mixed | NoBodies
  | Mended | Stuck | View | Whole | Lacks | OnlyHour | Hours | NoHour | Index | Desk | Word | Reader
  deriving DecidableEq, Repr

inductive D where
  | non | bl (b : Bool) | int (i : Int) | str (x : Str)
  | tup (xs : List D) | lst (xs : List D)
  | ins (c : Cn) (fs : List D)
  | dK (kvs : List (Key × D)) | dT (kvs : List (List Key × D))
  | scr | drw

/-- the attributes of an instance, in the order in which its __init__ lays them -/
def Cn.fields : Cn → List Str
  | .Turn => ["rows", "below"] | .Book => ["stars"] | .Picture => ["points"] | .Only => ["turn"] | .Two => ["one", "other"] | .Nowhere => ["most"]
  | .Tells => [] | .Mistaken => ["turn", "pairs"] | .Same => ["turn"] | .Differ => ["places"] | .Way => ["start", "step"] | .Ways => ["one", "other"]
  | .NoWay => ["places"] | .Apart => ["rows"] | .Mixed => ["one", "other"] | .NoBodies => [] | .Mended => ["book"] | .Stuck => ["place", "why"]
  | .View => ["middle", "above", "below"] | .Whole => [] | .Lacks => ["names", "places"] | .OnlyHour => ["hour"] | .Hours => ["one", "other"]
  | .NoHour => ["many", "hour"] | .Index => ["book", "rows"] | .Desk => ["book", "pictures", "before", "least"] | .Word => ["kind", "told", "line", "column"]
  | .Reader => ["words", "at"]

/-- what stands fast: the written part, the classes' places, the script; the draw's list where it is made -/
structure Gh where
  K : PySem.W.Frag
  cls : Cn → Option Addr
  sa : Addr
  ns : List Int
  da : Option Addr
  me : Option (Addr × Addr × Addr)

mutual
/-- a value stands for a datum, over the part of the heap that never changes -/
inductive Rep (G : Gh) (I : Hp) : V → D → Prop
  | non : Rep G I .non .non
  | bl (b : Bool) : Rep G I (.bl b) (.bl b)
  | int (i : Int) : Rep G I (.int i) (.int i)
  | str (x : Str) : Rep G I (.str x) (.str x)
  | tup {a : Addr} {vs : List V} {ds : List D} (h : SqT G.K I a vs) (r : RepL G I vs ds) : Rep G I (.ref a) (.tup ds)
  | lst {a : Addr} {vs : List V} {ds : List D} (h : I a = some (.lst vs)) (r : RepL G I vs ds) : Rep G I (.ref a) (.lst ds)
  | ins {a C dx : Addr} {c : Cn} {vs : List V} {ds : List D} (h : I a = some (.ins C dx (c.fields.zip vs))) (hc : G.cls c = some C) (hl : vs.length = c.fields.length) (r : RepL G I vs ds) : Rep G I (.ref a) (.ins c ds)
  | dK {a : Addr} {kvs : List (Key × V)} {ds : List (Key × D)} (h : Rd I a (.dK kvs)) (hk : kvs.map (·.1) = ds.map (·.1)) (r : RepL G I (kvs.map (·.2)) (ds.map (·.2))) : Rep G I (.ref a) (.dK ds)
  | dT {a : Addr} {kvs : List (List Key × V)} {ds : List (List Key × D)} (h : Rd I a (.dT kvs)) (hk : kvs.map (·.1) = ds.map (·.1)) (r : RepL G I (kvs.map (·.2)) (ds.map (·.2))) : Rep G I (.ref a) (.dT ds)
  | scr : Rep G I (.ref G.sa) .scr
  | drw {a : Addr} (h : G.da = some a) : Rep G I (.ref a) .drw
inductive RepL (G : Gh) (I : Hp) : List V → List D → Prop
  | nil : RepL G I [] []
  | cons {v : V} {d : D} {vs : List V} {ds : List D} (h : Rep G I v d) (t : RepL G I vs ds) : RepL G I (v :: vs) (d :: ds)
end

abbrev Sub (I I' : Hp) : Prop := ∀ a o, I a = some o → I' a = some o
theorem Rd.sub {I I' : Hp} {a : Addr} {u : HO} (s : Sub I I') (h : Rd I a u) : Rd I' a u := by
  rcases h with h | ⟨o, h⟩
  · exact .inl (s _ _ h)
  · exact .inr ⟨o, s _ _ h⟩
theorem sqT_sub {K : PySem.W.Frag} {I I' : Hp} {a : Addr} {vs : List V} (s : Sub I I') (h : SqT K I a vs) : SqT K I' a vs := by
  rcases h with h | h
  · exact .inl (Rd.sub s h)
  · exact .inr h
theorem sqL_sub {K : PySem.W.Frag} {I I' : Hp} {a : Addr} {vs : List V} (s : Sub I I') (h : SqL K I a vs) : SqL K I' a vs := by
  rcases h with h | h
  · exact .inl (Rd.sub s h)
  · exact .inr h

mutual
theorem Rep.sub {G : Gh} {I I' : Hp} (s : Sub I I') : ∀ {v : V} {d : D}, Rep G I v d → Rep G I' v d
  | _, _, .non => .non
  | _, _, .bl b => .bl b
  | _, _, .int i => .int i
  | _, _, .str x => .str x
  | _, _, .tup h r => .tup (sqT_sub s h) (r.sub s)
  | _, _, .lst h r => .lst (s _ _ h) (r.sub s)
  | _, _, .ins h hc hl r => .ins (s _ _ h) hc hl (r.sub s)
  | _, _, .dK h hk r => .dK (Rd.sub s h) hk (r.sub s)
  | _, _, .dT h hk r => .dT (Rd.sub s h) hk (r.sub s)
  | _, _, .scr => .scr
  | _, _, .drw h => .drw h
theorem RepL.sub {G : Gh} {I I' : Hp} (s : Sub I I') : ∀ {v : List V} {d : List D}, RepL G I v d → RepL G I' v d
  | _, _, .nil => .nil
  | _, _, .cons h t => .cons (h.sub s) (t.sub s)
end
theorem RepL.length {G : Gh} {I : Hp} : ∀ {vs : List V} {ds : List D}, RepL G I vs ds → vs.length = ds.length
  | _, _, .nil => rfl
  | _, _, .cons _ t => congrArg (· + 1) t.length
theorem RepL.get {G : Gh} {I : Hp} : ∀ {vs : List V} {ds : List D} {i : Nat} {d : D}, RepL G I vs ds → ds[i]? = some d → ∃ v, vs[i]? = some v ∧ Rep G I v d
  | _, _, _, _, .nil, e => by simp at e
  | _, _, 0, _, .cons h _, e => by simp at e; subst e; exact ⟨_, rfl, h⟩
  | _, _, i + 1, d, .cons _ t, e => by
    obtain ⟨v, h1, h2⟩ := RepL.get (i := i) (d := d) t (by simpa using e)
    exact ⟨v, by simpa using h1, h2⟩
theorem RepL.getV {G : Gh} {I : Hp} : ∀ {vs : List V} {ds : List D} {i : Nat} {v : V}, RepL G I vs ds → vs[i]? = some v → ∃ d, ds[i]? = some d ∧ Rep G I v d
  | _, _, _, _, .nil, e => by simp at e
  | _, _, 0, _, .cons h _, e => by simp at e; subst e; exact ⟨_, rfl, h⟩
  | _, _, i + 1, v, .cons _ t, e => by
    obtain ⟨d, h1, h2⟩ := RepL.getV (i := i) (v := v) t (by simpa using e)
    exact ⟨d, by simpa using h1, h2⟩
theorem RepL.append {G : Gh} {I : Hp} : ∀ {vs ws : List V} {ds es : List D}, RepL G I vs ds → RepL G I ws es → RepL G I (vs ++ ws) (ds ++ es)
  | _, _, _, _, .nil, s => s
  | _, _, _, _, .cons h t, s => .cons h (t.append s)
theorem RepL.take {G : Gh} {I : Hp} : ∀ {vs : List V} {ds : List D} (n : Nat), RepL G I vs ds → RepL G I (vs.take n) (ds.take n)
  | _, _, 0, _ => .nil
  | _, _, _ + 1, .nil => .nil
  | _, _, n + 1, .cons h t => .cons h (t.take n)
theorem RepL.drop {G : Gh} {I : Hp} : ∀ {vs : List V} {ds : List D} (n : Nat), RepL G I vs ds → RepL G I (vs.drop n) (ds.drop n)
  | _, _, 0, h => h
  | _, _, _ + 1, .nil => .nil
  | _, _, n + 1, .cons _ t => t.drop n

/-- the script: locked, or one of the module's own -/
def ScrOk (K : PySem.W.Frag) (H : Hp) (a : Addr) (ns : List Int) : Prop := (∃ o, H a = some (.frz o (.lst (ns.map .int)))) ∨
  ∃ (o : Obj) (its : Array Value) (n : Nat), K.lookup a = some o ∧ o.cls = .type "list" ∧ o.dict = none ∧ o.data = .seq its n ∧ its.size ≤ sizeLine ∧ Vals (ns.map .int) its.toList
theorem ScrOk.sq {K : PySem.W.Frag} {H : Hp} {a : Addr} {ns : List Int} (h : ScrOk K H a ns) : SqL K H a (ns.map .int) := by
  rcases h with ⟨o, h⟩ | h
  · exact .inl (.inr ⟨o, h⟩)
  · exact .inr h
theorem ScrOk.sub {K : PySem.W.Frag} {H H' : Hp} {a : Addr} {ns : List Int} (h : ScrOk K H a ns) (s : ∀ o, H a = some o → H' a = some o) : ScrOk K H' a ns := by
  rcases h with ⟨o, h⟩ | h
  · exact .inl ⟨o, s _ h⟩
  · exact .inr h
/-- the world: the script stands, the draw's list holds how many were drawn -/
structure WOk (G : Gh) (I H : Hp) (k : Nat) : Prop where
  inH : Sub I H
  scr : ScrOk G.K H G.sa G.ns
  drw : ∀ d, G.da = some d → True ∧ I d = none ∧ H d = some (.lst [.ref G.sa, .int k])
/-- the heap has grown: I the part that never changes. The draw's list alone may change -/
structure Step (G : Gh) (I H I' H' : Hp) (k' : Nat) : Prop where
  w : WOk G I' H' k'
  sub : Sub I I'
  new : ∀ a o, I' a = some o → I a = some o ∨ H a = none
  same : ∀ a o, H a = some o → G.da ≠ some a → H' a = some o
theorem Step.refl {G : Gh} {I H : Hp} {k : Nat} (w : WOk G I H k) : Step G I H I H k := ⟨w, fun _ _ e => e, fun _ _ e => .inl e, fun _ _ e _ => e⟩
theorem Step.trans {G : Gh} {I H I1 H1 I2 H2 : Hp} {k1 k2 : Nat} (a : Step G I H I1 H1 k1) (b : Step G I1 H1 I2 H2 k2) : Step G I H I2 H2 k2 where
  w := b.w
  sub := fun x o e => b.sub x o (a.sub x o e)
  new := fun x o e => by
    rcases b.new x o e with h | h
    · exact a.new x o h
    · by_cases q : G.da = some x
      · have := (b.w.drw x q).2.1
        rw [e] at this; cases this
      · cases e2 : H x with
        | none => exact .inr rfl
        | some u =>
          have := a.same x u e2 q
          rw [h] at this
          cases this
  same := fun x o e q => b.same x o (a.same x o e q) q
/-- a new object is laid, and belongs to what never changes -/
theorem Step.laid {G : Gh} {I H : Hp} {k : Nat} {p : Addr} {o : HO} (w : WOk G I H k) (hp : H p = none) : Step G I H (upd I p o) (upd H p o) k := by
  have hI : I p = none := by
    cases e : I p with
    | none => rfl
    | some u => have := w.inH p u e; rw [hp] at this; cases this
  refine ⟨⟨fun a u e => ?_, ?_, fun d hd => ?_⟩, fun a u e => ?_, fun a u e => ?_, fun a u e _ => ?_⟩
  · by_cases q : a = p
    · subst q; rw [upd_same] at e ⊢; exact e
    · rw [upd_ne q] at e ⊢; exact w.inH a u e
  · exact w.scr.sub fun u e => by rw [upd_ne (ne_of_none e hp)]; exact e
  · obtain ⟨h1, h2, h3⟩ := w.drw d hd
    have ne : d ≠ p := ne_of_none h3 hp
    exact ⟨h1, by rw [upd_ne ne]; exact h2, by rw [upd_ne ne]; exact h3⟩
  · rw [upd_ne (ne_of_none e hI)]; exact e
  · by_cases q : a = p
    · subst q; exact .inr hp
    · rw [upd_ne q] at e; exact .inl e
  · rw [upd_ne (ne_of_none e hp)]; exact e

-- ### a frame's slots 
inductive Slot where
  | no | val (d : D) | own (d : D) | me (c : Cn) (ds : List D)
/-- an object that a name alone holds, and that may change -/
def OwnRep (G : Gh) (I H : Hp) (a : Addr) : D → Prop
  | .lst ds => ∃ vs, H a = some (.lst vs) ∧ RepL G I vs ds
  | .dK ds => ∃ kvs, H a = some (.dK kvs) ∧ kvs.map (·.1) = ds.map (·.1) ∧ RepL G I (kvs.map (·.2)) (ds.map (·.2))
  | .dT ds => ∃ kvs, H a = some (.dT kvs) ∧ kvs.map (·.1) = ds.map (·.1) ∧ RepL G I (kvs.map (·.2)) (ds.map (·.2))
  | _ => False
theorem OwnRep.there {G : Gh} {I H : Hp} {a : Addr} {d : D} (h : OwnRep G I H a d) : ∃ o, H a = some o := by
  cases d <;> first | exact False.elim h | (obtain ⟨_, h, _⟩ := h; exact ⟨_, h⟩)
theorem OwnRep.step {G : Gh} {I H I' H' : Hp} {a : Addr} {d : D} (h : OwnRep G I H a d) (s : Sub I I') (k : ∀ o, H a = some o → H' a = some o) : OwnRep G I' H' a d := by
  cases d <;> first | exact False.elim h | skip
  · obtain ⟨vs, h, r⟩ := h; exact ⟨vs, k _ h, r.sub s⟩
  · obtain ⟨vs, h, hk, r⟩ := h; exact ⟨vs, k _ h, hk, r.sub s⟩
  · obtain ⟨vs, h, hk, r⟩ := h; exact ⟨vs, k _ h, hk, r.sub s⟩

/-- a frame: I0, H0 at its entry, I, H now -/
structure FI (G : Gh) (I0 H0 I H : Hp) (k : Nat) (σ : List (Option V)) (ρ : List Slot) : Prop where
  st : Step G I0 H0 I H k
  len : σ.length = ρ.length
  val : ∀ (i : Nat) (d : D), ρ[i]? = some (.val d) → ∃ v, σ[i]? = some (some v) ∧ Rep G I v d
  own : ∀ (i : Nat) (d : D), ρ[i]? = some (.own d) → ∃ a, σ[i]? = some (some (V.ref a)) ∧ OwnRep G I H a d ∧ I a = none ∧ H0 a = none ∧ G.da ≠ some a
  dis : ∀ (i j : Nat) (d e : D) (a : Addr), ρ[i]? = some (.own d) → ρ[j]? = some (.own e) → σ[i]? = some (some (V.ref a)) → σ[j]? = some (some (V.ref a)) → i = j
  me : ∀ (i : Nat) (c : Cn) (ds : List D), ρ[i]? = some (.me c ds) → ∃ x dx C vs, G.me = some (x, dx, C) ∧ σ[i]? = some (some (V.ref x)) ∧ H x = some (.ins C dx (c.fields.zip vs)) ∧ G.cls c = some C ∧ ds.length ≤ c.fields.length ∧ RepL G I vs ds ∧ I x = none ∧ H0 x = none ∧ G.da ≠ some x
  one : ∀ (i j : Nat) (c e : Cn) (ds es : List D), ρ[i]? = some (.me c ds) → ρ[j]? = some (.me e es) → i = j
theorem FI.w {G : Gh} {I0 H0 I H : Hp} {k : Nat} {σ : List (Option V)} {ρ : List Slot} (F : FI G I0 H0 I H k σ ρ) : WOk G I H k := F.st.w
theorem FI.step {G : Gh} {I0 H0 I H I' H' : Hp} {k k' : Nat} {σ : List (Option V)} {ρ : List Slot} (F : FI G I0 H0 I H k σ ρ) (s : Step G I H I' H' k') : FI G I0 H0 I' H' k' σ ρ where
  st := F.st.trans s
  len := F.len
  val := fun i d e => let ⟨v, h1, h2⟩ := F.val i d e; ⟨v, h1, h2.sub s.sub⟩
  own := fun i d e => by
    obtain ⟨a, h1, h2, h3, h4, h5⟩ := F.own i d e
    refine ⟨a, h1, h2.step s.sub (fun o q => s.same a o q h5), ?_, h4, h5⟩
    cases q : I' a with
    | none => rfl
    | some o =>
      obtain ⟨u, hu⟩ := h2.there
      rcases s.new a o q with z | z
      · rw [h3] at z; cases z
      · rw [hu] at z; cases z
  dis := F.dis
  me := fun i c ds e => by
    obtain ⟨x, dx, C, vs, h1, h2, h3, h4, h5, h6, h7, h8, h9⟩ := F.me i c ds e
    refine ⟨x, dx, C, vs, h1, h2, s.same x _ h3 h9, h4, h5, h6.sub s.sub, ?_, h8, h9⟩
    cases q : I' x with
    | none => rfl
    | some o =>
      rcases s.new x o q with z | z
      · rw [h7] at z; cases z
      · rw [h3] at z; cases z
  one := F.one

-- ### readings by data 
/-- what a piece of a program yields, from how many were drawn: none where it is not told -/
abbrev M (α : Type) := Nat → Option (α × Nat)
namespace M
def pure {α : Type} (a : α) : M α := fun k => some (a, k)
def bind {α β : Type} (x : M α) (f : α → M β) : M β := fun k => match x k with
  | some (a, k') => f a k'
  | none => none
def fail {α : Type} : M α := fun _ => none
def lift {α : Type} (o : Option α) : M α := fun k => match o with
  | some a => some (a, k)
  | none => none
theorem bind_some {α β : Type} {x : M α} {f : α → M β} {k : Nat} {r : β × Nat} (h : M.bind x f k = some r) : ∃ a k', x k = some (a, k') ∧ f a k' = some r := by
  unfold M.bind at h
  cases e : x k with
  | none => rw [e] at h; cases h
  | some p => obtain ⟨a, k'⟩ := p; rw [e] at h; exact ⟨a, k', rfl, h⟩
theorem lift_some {α : Type} {o : Option α} {k k' : Nat} {a : α} (h : M.lift o k = some (a, k')) : o = some a ∧ k' = k := by
  unfold M.lift at h
  cases e : o with
  | none => rw [e] at h; cases h
  | some b => rw [e] at h; simp only [Option.some.injEq, Prod.mk.injEq] at h; exact ⟨by rw [h.1], h.2.symm⟩
end M
abbrev Env := List Slot
abbrev Sem := Env → M D
abbrev SemB := Env → M Bool
abbrev SemL := Env → M (List D)
def tD (G : Gh) (f : Sem) : TE := fun σ H Q => ∃ I0 H0 I k ρ d k', FI G I0 H0 I H k σ ρ ∧ f ρ k = some (d, k') ∧ ∀ I' H' v, Step G I H I' H' k' → Rep G I' v d → Q v H'
def tDB (G : Gh) (f : SemB) : TT := fun σ H Q => ∃ I0 H0 I k ρ b k', FI G I0 H0 I H k σ ρ ∧ f ρ k = some (b, k') ∧ ∀ I' H', Step G I H I' H' k' → Q b H'
def tDL (G : Gh) (f : SemL) : TA := fun σ H Q => ∃ I0 H0 I k ρ ds k', FI G I0 H0 I H k σ ρ ∧ f ρ k = some (ds, k') ∧ ∀ I' H' vs, Step G I H I' H' k' → RepL G I' vs ds → Q vs H'
/-- read for a moment: an object that a name alone holds, too -/
def RepB (G : Gh) (I H : Hp) (v : V) (d : D) : Prop := Rep G I v d ∨ ∃ a, v = .ref a ∧ OwnRep G I H a d ∧ I a = none ∧ G.da ≠ some a
def tDR (G : Gh) (f : Sem) : TE := fun σ H Q => ∃ I0 H0 I k ρ d k', FI G I0 H0 I H k σ ρ ∧ f ρ k = some (d, k') ∧ ∀ I' H' v, Step G I H I' H' k' → RepB G I' H' v d → Q v H'
theorem RepB.step {G : Gh} {I H I' H' : Hp} {k' : Nat} {v : V} {d : D} (h : RepB G I H v d) (s : Step G I H I' H' k') : RepB G I' H' v d := by
  rcases h with h | ⟨a, e, h, n, q⟩
  · exact .inl (h.sub s.sub)
  · refine .inr ⟨a, e, h.step s.sub (fun o z => s.same a o z q), ?_, q⟩
    cases z : I' a with
    | none => rfl
    | some o =>
      obtain ⟨u, hu⟩ := h.there
      rcases s.new a o z with y | y
      · rw [n] at y; cases y
      · rw [hu] at y; cases y

theorem _root_.L2.PE.mono {X : Cx} {e : Expr} {t t' : TE} (h : PE X e t) (w : ∀ σ H Q, t' σ H Q → t σ H Q) : PE X e t' := ⟨fun pins s σ H Q I q => h.run pins s σ H Q I (w σ H Q q)⟩
theorem _root_.L2.PT.mono {X : Cx} {e : Expr} {t t' : TT} (h : PT X e t) (w : ∀ σ H Q, t' σ H Q → t σ H Q) : PT X e t' := ⟨fun pins s σ H Q I q => h.run pins s σ H Q I (w σ H Q q)⟩
theorem _root_.L2.PW.mono {X : Cx} {e : Expr} {t t' : TT} (h : PW X e t) (w : ∀ σ H Q, t' σ H Q → t σ H Q) : PW X e t' := ⟨fun wh pins s σ H Q I q => h.run wh pins s σ H Q I (w σ H Q q)⟩
theorem _root_.L2.PA.mono {X : Cx} {e : List Expr} {t t' : TA} (h : PA X e t) (w : ∀ σ H Q, t' σ H Q → t σ H Q) : PA X e t' := ⟨fun pos pins s σ H Q I q => h.run pos pins s σ H Q I (w σ H Q q)⟩
theorem _root_.L2.PS.mono {X : Cx} {e : Stmt} {t t' : TS} (h : PS X e t) (w : ∀ D σ H, t' D σ H → t D σ H) : PS X e t' := ⟨fun pins s σ H D I q => h.run pins s σ H D I (w D σ H q)⟩
theorem _root_.L2.PSs.mono {X : Cx} {e : List Stmt} {t t' : TS} (h : PSs X e t) (w : ∀ D σ H, t' D σ H → t D σ H) : PSs X e t' := ⟨fun pins s σ H D I q => h.run pins s σ H D I (w D σ H q)⟩

abbrev DE (G : Gh) (X : Cx) (e : Expr) (f : Sem) : Prop := PE X e (tD G f)
abbrev DR (G : Gh) (X : Cx) (e : Expr) (f : Sem) : Prop := PE X e (tDR G f)
abbrev DT (G : Gh) (X : Cx) (e : Expr) (f : SemB) : Prop := PT X e (tDB G f)
abbrev DA (G : Gh) (X : Cx) (es : List Expr) (f : SemL) : Prop := PA X es (tDL G f)
theorem DE.toR {G : Gh} {X : Cx} {e : Expr} {f : Sem} (h : DE G X e f) : DR G X e f := PE.mono h fun σ H Q ⟨I0, H0, I, k, ρ, d, k', F, e, q⟩ => ⟨I0, H0, I, k, ρ, d, k', F, e, fun I' H' v s r => q I' H' v s (.inl r)⟩
end Sky

end
section
-- SkyB: expressions by data. 
namespace Sky
open PySem PySem.Spec PyProof.Rows L2

-- ### names, constants 
def dV (i : Nat) : Sem := fun ρ k => match ρ[i]? with
  | some (.val d) => some (d, k)
  | _ => none
def dVR (i : Nat) : Sem := fun ρ k => match ρ[i]? with
  | some (.val d) => some (d, k)
  | some (.own d) => some (d, k)
  | _ => none
def dC (d : D) : Sem := fun _ k => some (d, k)
section
variable {G : Gh} {X : Cx}
theorem de_var {i : Nat} {x : Str} {pos : Pos} (h : PE X (.Name x pos) (tVar i)) : DE G X (.Name x pos) (dV i) := PE.mono h fun σ H Q hq => by
  obtain ⟨I0, H0, I, k, ρ, d, k', F, e, q⟩ := hq
  unfold dV at e
  split at e
  · rename_i d' hd
    cases e
    obtain ⟨v, h1, h2⟩ := F.val i _ hd
    exact ⟨v, h1, q I H v (Step.refl F.w) h2⟩
  · cases e
theorem dr_var {i : Nat} {x : Str} {pos : Pos} (h : PE X (.Name x pos) (tVar i)) : DR G X (.Name x pos) (dVR i) := PE.mono h fun σ H Q hq => by
  obtain ⟨I0, H0, I, k, ρ, d, k', F, e, q⟩ := hq
  unfold dVR at e
  split at e
  · rename_i d' hd
    cases e
    obtain ⟨v, h1, h2⟩ := F.val i _ hd
    exact ⟨v, h1, q I H v (Step.refl F.w) (.inl h2)⟩
  · rename_i d' hd
    cases e
    obtain ⟨a, h1, h2, h3, h4, h5⟩ := F.own i _ hd
    exact ⟨_, h1, q I H _ (Step.refl F.w) (.inr ⟨a, rfl, h2, h3, h5⟩)⟩
  · cases e
theorem de_const {e : Expr} {v : V} {d : D} (h : PE X e (tC v)) (hr : ∀ I, Rep G I v d) : DE G X e (dC d) := PE.mono h fun σ H Q hq => by
  obtain ⟨I0, H0, I, k, ρ, d', k', F, e, q⟩ := hq
  cases e
  exact q I H v (Step.refl F.w) (hr I)
end

-- ### what a borrowed value is 
section
variable {G : Gh} {I H : Hp} {v : V}
theorem RepB.int {i : Int} (h : RepB G I H v (.int i)) : v = .int i := by
  rcases h with h | ⟨_, _, h, _⟩
  · cases h; rfl
  · exact False.elim h
theorem RepB.bl {b : Bool} (h : RepB G I H v (.bl b)) : v = .bl b := by
  rcases h with h | ⟨_, _, h, _⟩
  · cases h; rfl
  · exact False.elim h
theorem RepB.str {x : Str} (h : RepB G I H v (.str x)) : v = .str x := by
  rcases h with h | ⟨_, _, h, _⟩
  · cases h; rfl
  · exact False.elim h
theorem RepB.non (h : RepB G I H v .non) : v = .non := by
  rcases h with h | ⟨_, _, h, _⟩
  · cases h; rfl
  · exact False.elim h
theorem RepB.tup {ds : List D} (w : Sub I H) (h : RepB G I H v (.tup ds)) : ∃ a vs, v = .ref a ∧ SqT G.K H a vs ∧ RepL G I vs ds := by
  rcases h with h | ⟨_, _, h, _⟩
  · cases h with
    | tup h r => exact ⟨_, _, rfl, sqT_sub w h, r⟩
  · exact False.elim h
theorem RepB.lst {ds : List D} (w : Sub I H) (h : RepB G I H v (.lst ds)) : ∃ a vs, v = .ref a ∧ H a = some (.lst vs) ∧ RepL G I vs ds := by
  rcases h with h | ⟨a, e, ⟨vs, h, r⟩, _⟩
  · cases h with
    | lst h r => exact ⟨_, _, rfl, w _ _ h, r⟩
  · exact ⟨a, vs, e, h, r⟩
end
theorem RepL.nil_iff {G : Gh} {I : Hp} {vs : List V} {ds : List D} (h : RepL G I vs ds) : vs = [] ↔ ds = [] := by
  cases h with
  | nil => simp
  | cons _ _ => simp

-- ### operators on two data 
def lim (n : Nat) : Bool := Nat.ble n 1000000
theorem lim_ok {n : Nat} (h : lim n = true) : n ≤ sizeLine := by
  have := Nat.le_of_ble_eq_true h
  rw [sizeLine_eq]; omega
theorem lim_lt {n : Nat} (h : lim n = true) : n < sizeLine := by
  have := Nat.le_of_ble_eq_true h
  rw [sizeLine_eq]; omega
def mulOk (i j : Int) : Bool := Nat.blt i.natAbs 18446744073709551616 || (Nat.blt j.natAbs 18446744073709551616 || Nat.blt (i.natAbs.log2 + j.natAbs.log2) 1000000)
theorem mulOk_ok {i j : Int} (h : mulOk i j = true) : IntMulOk i j := by
  unfold mulOk at h
  rcases Bool.or_eq_true_iff.mp h with h | h
  · have := Nat.le_of_ble_eq_true h
    exact .of_left (intBits_le_64 (by omega) (by omega))
  · rcases Bool.or_eq_true_iff.mp h with h | h
    · have := Nat.le_of_ble_eq_true h
      exact .of_right (intBits_le_64 (by omega) (by omega))
    · exact CMulW.ok (Nat.le_of_ble_eq_true h)
theorem op_mulX {X : Cx} : OpR X (binaryOp .Mult) (rI IntMulOk fun i j => .int (i * j)) := opI fun _ _ _ _ _ _ _ hc q => mul_int q hc
def divOk (j : Int) : Bool := decide (0 < j) && Nat.blt j.natAbs.log2 9000
def D.add : D → D → Option D
  | .int i, .int j => some (.int (i + j))
  | .str x, .str y => if lim (x.length + y.length) then some (.str (x ++ y)) else none
  | .tup xs, .tup ys => if lim (xs.length + ys.length) then some (.tup (xs ++ ys)) else none
  | .lst xs, .lst ys => if lim (xs.length + ys.length) then some (.lst (xs ++ ys)) else none
  | _, _ => none
def D.sub : D → D → Option D
  | .int i, .int j => some (.int (i - j))
  | _, _ => none
def D.mul : D → D → Option D
  | .int i, .int j => if mulOk i j then some (.int (i * j)) else none
  | _, _ => none
def D.fdiv : D → D → Option D
  | .int i, .int j => if divOk j then some (.int (i / j)) else none
  | _, _ => none
def D.mod : D → D → Option D
  | .int i, .int j => if 0 < j then some (.int (i % j)) else none
  | _, _ => none
/-- a rule by values serves a function of data -/
def RD2 (G : Gh) (r : R2) (g : D → D → Option D) : Prop :=
  ∀ (I H : Hp) (k : Nat) (x y : V) (d e z : D) (Q : VK), WOk G I H k → RepB G I H x d → RepB G I H y e → g d e = some z → (∀ I' H' v, Step G I H I' H' k → Rep G I' v z → Q v H') → r x y H Q
section
variable {G : Gh}
theorem rd_sub : RD2 G (rI0 fun i j => .int (i - j)) D.sub := by
  intro I H k x y d e z Q w hx hy hz q
  cases d <;> cases e <;> simp only [D.sub] at hz <;> cases hz
  cases hx.int; cases hy.int
  exact ⟨_, _, rfl, rfl, q I H _ (Step.refl w) (.int _)⟩
theorem rd_mul : RD2 G (rI IntMulOk fun i j => .int (i * j)) D.mul := by
  intro I H k x y d e z Q w hx hy hz q
  cases d <;> cases e <;> simp only [D.mul] at hz <;> try cases hz
  rename_i i j
  cases hx.int; cases hy.int
  by_cases c : mulOk i j = true
  · rw [if_pos c] at hz
    cases hz
    exact ⟨_, _, rfl, rfl, mulOk_ok c, q I H _ (Step.refl w) (.int _)⟩
  · rw [if_neg c] at hz; cases hz
theorem rd_fdiv : RD2 G (rI CDivW fun i j => .int (i / j)) D.fdiv := by
  intro I H k x y d e z Q w hx hy hz q
  cases d <;> cases e <;> simp only [D.fdiv] at hz <;> try cases hz
  rename_i i j
  cases hx.int; cases hy.int
  by_cases c : divOk j = true
  · rw [if_pos c] at hz
    cases hz
    have c' := Bool.and_eq_true_iff.mp c
    exact ⟨_, _, rfl, rfl, ⟨of_decide_eq_true c'.1, Nat.le_of_ble_eq_true c'.2⟩, q I H _ (Step.refl w) (.int _)⟩
  · rw [if_neg c] at hz; cases hz
theorem rd_mod : RD2 G (rI (fun _ j => 0 < j) fun i j => .int (i % j)) D.mod := by
  intro I H k x y d e z Q w hx hy hz q
  cases d <;> cases e <;> simp only [D.mod] at hz <;> try cases hz
  rename_i i j
  cases hx.int; cases hy.int
  by_cases c : 0 < j
  · rw [if_pos c] at hz
    cases hz
    exact ⟨_, _, rfl, rfl, c, q I H _ (Step.refl w) (.int _)⟩
  · rw [if_neg c] at hz; cases hz
/-- a new list, a new tuple, of what never changes -/
theorem new_lst {I H : Hp} {k : Nat} {p : Addr} {vs : List V} {ds : List D} (w : WOk G I H k) (hp : H p = none) (r : RepL G I vs ds) :
    Step G I H (upd I p (.lst vs)) (upd H p (.lst vs)) k ∧ Rep G (upd I p (.lst vs)) (.ref p) (.lst ds) :=
  have s := Step.laid (o := .lst vs) w hp
  ⟨s, .lst upd_same (r.sub s.sub)⟩
theorem new_tup {I H : Hp} {k : Nat} {p : Addr} {vs : List V} {ds : List D} (w : WOk G I H k) (hp : H p = none) (r : RepL G I vs ds) :
    Step G I H (upd I p (.tup vs)) (upd H p (.tup vs)) k ∧ Rep G (upd I p (.tup vs)) (.ref p) (.tup ds) :=
  have s := Step.laid (o := .tup vs) w hp
  ⟨s, .tup (.inl (.inl upd_same)) (r.sub s.sub)⟩
def rAddD (K : PySem.W.Frag) : R2 := fun x y H Q => (rI0 (fun i j => .int (i + j)) x y H Q ∨ ∃ i j, x = .str i ∧ y = .str j ∧ i.length + j.length ≤ sizeLine ∧ Q (.str (i ++ j)) H) ∨ (rCatA K x y H Q ∨ rCat x y H Q)
theorem op_addD {X : Cx} : OpR X (binaryOp .Add) (rAddD X.K) := (op_add.or op_add_str).or (op_catA.or op_cat)
theorem rd_add : RD2 G (rAddD G.K) D.add := by
  intro I H k x y d e z Q w hx hy hz q
  cases d <;> cases e <;> simp only [D.add] at hz <;> try cases hz
  · cases hx.int; cases hy.int
    exact .inl (.inl ⟨_, _, rfl, rfl, q I H _ (Step.refl w) (.int _)⟩)
  · rename_i i j
    cases hx.str; cases hy.str
    by_cases c : lim (i.length + j.length) = true
    · rw [if_pos c] at hz; cases hz
      exact .inl (.inr ⟨_, _, rfl, rfl, lim_ok c, q I H _ (Step.refl w) (.str _)⟩)
    · rw [if_neg c] at hz; cases hz
  · rename_i xs ys
    obtain ⟨a, vs, rfl, h1, r1⟩ := hx.tup w.inH
    obtain ⟨b, ws, rfl, h2, r2⟩ := hy.tup w.inH
    by_cases c : lim (xs.length + ys.length) = true
    · rw [if_pos c] at hz; cases hz
      have hxr : Rep G I (.ref a) (.tup xs) := by
        rcases hx with h | ⟨_, _, h, _⟩
        · exact h
        · exact False.elim h
      have hyr : Rep G I (.ref b) (.tup ys) := by
        rcases hy with h | ⟨_, _, h, _⟩
        · exact h
        · exact False.elim h
      refine .inr (.inl ⟨a, b, vs, ws, rfl, rfl, h1, h2, by rw [r1.length, r2.length]; exact lim_ok c, fun e => ?_, fun _ e => ?_, fun _ _ p hp => ?_⟩)
      · have e' := r1.nil_iff.mp e
        subst e'
        exact q I H _ (Step.refl w) hyr
      · have e' := r2.nil_iff.mp e
        subst e'
        rw [List.append_nil] at q
        exact q I H _ (Step.refl w) hxr
      · obtain ⟨s, rp⟩ := new_tup w hp (r1.append r2)
        exact q _ _ _ s rp
    · rw [if_neg c] at hz; cases hz
  · rename_i xs ys
    obtain ⟨a, vs, rfl, h1, r1⟩ := hx.lst w.inH
    obtain ⟨b, ws, rfl, h2, r2⟩ := hy.lst w.inH
    by_cases c : lim (xs.length + ys.length) = true
    · rw [if_pos c] at hz; cases hz
      refine .inr (.inr ⟨a, b, vs, ws, rfl, rfl, h1, h2, by rw [r1.length, r2.length]; exact lim_ok c, fun p hp => ?_⟩)
      obtain ⟨s, rp⟩ := new_lst w hp (r1.append r2)
      exact q _ _ _ s rp
    · rw [if_neg c] at hz; cases hz

/-- two expressions, then a function of data -/
def dBin (g : D → D → Option D) (f1 f2 : Sem) : Sem := fun ρ => M.bind (f1 ρ) fun x => M.bind (f2 ρ) fun y => M.lift (g x y)
theorem td_op {r : R2} {g : D → D → Option D} (hr : RD2 G r g) {f1 f2 : Sem} {σ : List (Option V)} {H : Hp} {Q : VK} (hq : tD G (dBin g f1 f2) σ H Q) : tOp r (tDR G f1) (tDR G f2) σ H Q := by
  obtain ⟨I0, H0, I, k, ρ, d, k', F, e, q⟩ := hq
  obtain ⟨x, k1, e1, e⟩ := M.bind_some e
  obtain ⟨y, k2, e2, e⟩ := M.bind_some e
  obtain ⟨e3, rfl⟩ := M.lift_some e
  exact ⟨I0, H0, I, k, ρ, x, k1, F, e1, fun I1 H1 v s1 r1 => ⟨I0, H0, I1, k1, ρ, y, _, F.step s1, e2, fun I2 H2 u s2 r2 =>
    hr I2 H2 _ v u x y d Q s2.w (r1.step s2) r2 e3 fun I3 H3 z s3 r3 => q I3 H3 z ((s1.trans s2).trans s3) r3⟩⟩
theorem de_op {X : Cx} {op : Operator} {r : R2} {g : D → D → Option D} {a b : Expr} {pos : Pos} {f1 f2 : Sem} (ho : OpR X (binaryOp op) r) (hr : RD2 G r g) (ha : DR G X a f1) (hb : DR G X b f2) : DE G X (.BinOp a op b pos) (dBin g f1 f2) :=
  PE.mono (pe_op ho ha hb) fun _ _ _ h => td_op hr h
/-- a comparison, as a value; as a test -/
def dBinB (g : D → D → Option Bool) (f1 f2 : Sem) : SemB := fun ρ => M.bind (f1 ρ) fun x => M.bind (f2 ρ) fun y => M.lift (g x y)
def RDB (G : Gh) (r : R2) (g : D → D → Option Bool) : Prop := RD2 G r fun x y => (g x y).map D.bl
theorem dc_val {X : Cx} {op : CmpOp} {r : R2} {g : D → D → Option Bool} {a b : Expr} {pos : Pos} {f1 f2 : Sem} (ho : OpR X (compareOp op) r) (hr : RDB G r g) (ha : DR G X a f1) (hb : DR G X b f2) (hm : behindInMarks op b = false) :
    DE G X (.Compare a [op] [b] pos) (dBin (fun x y => (g x y).map D.bl) f1 f2) := PE.mono (pe_cmpR ho ha hb hm) fun _ _ _ h => td_op hr h
theorem dc_test {X : Cx} {op : CmpOp} {r : R2} {g : D → D → Option Bool} {a b : Expr} {pos : Pos} {f1 f2 : Sem} (ho : OpR X (compareOp op) r) (hr : RDB G r g) (ha : DR G X a f1) (hb : DR G X b f2) (hm : behindInMarks op b = false) :
    DT G X (.Compare a [op] [b] pos) (dBinB g f1 f2) := PT.mono (pt_cmpR ho ha hb hm) fun σ H Q hq => by
  obtain ⟨I0, H0, I, k, ρ, d, k', F, e, q⟩ := hq
  refine td_op hr (Q := fun x H' => ∃ k, x = .bl k ∧ Q k H') ⟨I0, H0, I, k, ρ, .bl d, k', F, ?_, fun I' H' v s r => ?_⟩
  · obtain ⟨x, k1, e1, e⟩ := M.bind_some e
    obtain ⟨y, k2, e2, e⟩ := M.bind_some e
    obtain ⟨e3, rfl⟩ := M.lift_some e
    simp only [dBin, M.bind, e1, e2, e3, M.lift, Option.map]
  · cases r
    exact ⟨d, rfl, q I' H' s⟩
end
end Sky

end
section
-- SkyC: tests, chains, displays, places, fields, by data. 
namespace Sky
open PySem PySem.Spec PyProof.Rows L2

-- ### truth 
def D.tru : D → Option Bool
  | .non => some false
  | .bl b => some b
  | .int i => some (i != 0)
  | .str x => if lim x.length then some ((x.length : Int) != 0) else none
  | .tup xs => some (!xs.isEmpty)
  | .lst xs => some (!xs.isEmpty)
  | _ => none
theorem isEmpty_rep {G : Gh} {I : Hp} {vs : List V} {ds : List D} (h : RepL G I vs ds) : vs.isEmpty = ds.isEmpty := by
  cases h <;> rfl
theorem tru_rep {G : Gh} {I H : Hp} {v : V} {d : D} {b : Bool} (w : Sub I H) (h : RepB G I H v d) (e : d.tru = some b) : TruV G.K v H b := by
  cases d <;> simp only [D.tru] at e <;> try cases e
  · cases h.non; rfl
  · cases h.bl; rfl
  · cases h.int; rfl
  · rename_i x
    cases h.str
    by_cases c : lim x.length = true
    · rw [if_pos c] at e; cases e; exact ⟨lim_ok c, rfl⟩
    · rw [if_neg c] at e; cases e
  · obtain ⟨a, vs, rfl, h1, r⟩ := h.tup w
    exact .inr (.inl ⟨vs, h1, by rw [isEmpty_rep r]⟩)
  · obtain ⟨a, vs, rfl, h1, r⟩ := h.lst w
    exact .inl ⟨vs, SqL.of h1, by rw [isEmpty_rep r]⟩

def dTru (f : Sem) : SemB := fun ρ => M.bind (f ρ) fun x => M.lift x.tru
def dNotB (f : SemB) : SemB := fun ρ => M.bind (f ρ) fun b => M.pure (!b)
def dAndB (f g : SemB) : SemB := fun ρ => M.bind (f ρ) fun b => match b with | true => g ρ | false => M.pure false
def dOrB (f g : SemB) : SemB := fun ρ => M.bind (f ρ) fun b => match b with | true => M.pure true | false => g ρ
def dIf (c : SemB) (f g : Sem) : Sem := fun ρ => M.bind (c ρ) fun b => match b with | true => f ρ | false => g ρ
/-- and, or, not as values, by truth -/
def dAndV (f g : Sem) : Sem := fun ρ => M.bind (f ρ) fun x => M.bind (M.lift x.tru) fun b => match b with | true => g ρ | false => M.pure x
def dOrV (f g : Sem) : Sem := fun ρ => M.bind (f ρ) fun x => M.bind (M.lift x.tru) fun b => match b with | true => M.pure x | false => g ρ
def dNotV (f : Sem) : Sem := fun ρ => M.bind (f ρ) fun x => M.bind (M.lift x.tru) fun b => M.pure (.bl (!b))
theorem M.pure_some {α : Type} {a b : α} {k k' : Nat} (h : M.pure a k = some (b, k')) : b = a ∧ k' = k := by
  unfold M.pure at h; simp only [Option.some.injEq, Prod.mk.injEq] at h; exact ⟨h.1.symm, h.2.symm⟩
section
variable {G : Gh} {X : Cx} {a b c : Expr} {rest : List Expr} {pos : Pos}
theorem dt_tru {f : Sem} (hK : X.K = G.K) (ha : DR G X a f) (he : ∀ whole, isTrue a X.env whole = (do let v ← whole; standAt a.pos; holding [v] (truthy v))) : DT G X a (dTru f) := PT.mono (pt_truth ha he) fun σ H Q hq => by
  obtain ⟨I0, H0, I, k, ρ, d, k', F, e, q⟩ := hq
  obtain ⟨x, k1, e1, e⟩ := M.bind_some e
  obtain ⟨e3, rfl⟩ := M.lift_some e
  exact ⟨I0, H0, I, k, ρ, x, _, F, e1, fun I1 H1 v s1 r1 => ⟨d, by rw [hK]; exact tru_rep s1.w.inH r1 e3, q I1 H1 s1⟩⟩
theorem dt_not {f : SemB} (ha : DT G X a f) : DT G X (.UnaryOp .Not a pos) (dNotB f) := PT.mono (pt_not ha) fun σ H Q hq => by
  obtain ⟨I0, H0, I, k, ρ, d, k', F, e, q⟩ := hq
  obtain ⟨x, k1, e1, e⟩ := M.bind_some e
  obtain ⟨rfl, rfl⟩ := M.pure_some e
  exact ⟨I0, H0, I, k, ρ, x, _, F, e1, fun I1 H1 s1 => q I1 H1 s1⟩
abbrev DW (G : Gh) (X : Cx) (e : Expr) (f : SemB) : Prop := PW X e (tDB G f)
theorem td_and {f g : SemB} {σ : List (Option V)} {H : Hp} {Q : Bool → Hp → Prop} (hq : tDB G (dAndB f g) σ H Q) : tAnd (tDB G f) (tDB G g) σ H Q := by
  obtain ⟨I0, H0, I, k, ρ, d, k', F, e, q⟩ := hq
  obtain ⟨x, k1, e1, e⟩ := M.bind_some e
  refine ⟨I0, H0, I, k, ρ, x, k1, F, e1, fun I1 H1 s1 => ?_⟩
  cases x with
  | true => exact iteT ⟨I0, H0, I1, k1, ρ, d, k', F.step s1, e, fun I2 H2 s2 => q I2 H2 (s1.trans s2)⟩
  | false =>
    obtain ⟨rfl, rfl⟩ := M.pure_some e
    exact iteF (q I1 H1 s1)
theorem td_or {f g : SemB} {σ : List (Option V)} {H : Hp} {Q : Bool → Hp → Prop} (hq : tDB G (dOrB f g) σ H Q) : tOr (tDB G f) (tDB G g) σ H Q := by
  obtain ⟨I0, H0, I, k, ρ, d, k', F, e, q⟩ := hq
  obtain ⟨x, k1, e1, e⟩ := M.bind_some e
  refine ⟨I0, H0, I, k, ρ, x, k1, F, e1, fun I1 H1 s1 => ?_⟩
  cases x with
  | false => exact iteF ⟨I0, H0, I1, k1, ρ, d, k', F.step s1, e, fun I2 H2 s2 => q I2 H2 (s1.trans s2)⟩
  | true =>
    obtain ⟨rfl, rfl⟩ := M.pure_some e
    exact iteT (q I1 H1 s1)
theorem dw_and1 {f : SemB} (ha : DT G X a f) : DW G X (.BoolOp .And [a] pos) f := pw_and1 ha
theorem dw_or1 {f : SemB} (ha : DT G X a f) : DW G X (.BoolOp .Or [a] pos) f := pw_or1 ha
theorem dw_and {f g : SemB} (ha : DT G X a f) (hb : DW G X (.BoolOp .And (b :: rest) pos) g) : DW G X (.BoolOp .And (a :: b :: rest) pos) (dAndB f g) := PW.mono (pw_and ha hb) fun _ _ _ h => td_and h
theorem dw_or {f g : SemB} (ha : DT G X a f) (hb : DW G X (.BoolOp .Or (b :: rest) pos) g) : DW G X (.BoolOp .Or (a :: b :: rest) pos) (dOrB f g) := PW.mono (pw_or ha hb) fun _ _ _ h => td_or h
theorem de_if {c : Expr} {t : SemB} {f g : Sem} (hc : DT G X c t) (ha : DE G X a f) (hb : DE G X b g) : DE G X (.IfExp c a b pos) (dIf t f g) := PE.mono (pe_ifExp hc ha hb) fun σ H Q hq => by
  obtain ⟨I0, H0, I, k, ρ, d, k', F, e, q⟩ := hq
  obtain ⟨x, k1, e1, e⟩ := M.bind_some e
  refine ⟨I0, H0, I, k, ρ, x, k1, F, e1, fun I1 H1 s1 => ?_⟩
  cases x with
  | true => exact iteT ⟨I0, H0, I1, k1, ρ, d, k', F.step s1, e, fun I2 H2 v s2 r => q I2 H2 v (s1.trans s2) r⟩
  | false => exact iteF ⟨I0, H0, I1, k1, ρ, d, k', F.step s1, e, fun I2 H2 v s2 r => q I2 H2 v (s1.trans s2) r⟩
theorem de_one {op} {f : Sem} (ha : DE G X a f) : DE G X (.BoolOp op [a] pos) f := pe_one ha
theorem de_and {f g : Sem} (hK : X.K = G.K) (ha : DE G X a f) (hb : DE G X (.BoolOp .And (b :: rest) pos) g) : DE G X (.BoolOp .And (a :: b :: rest) pos) (dAndV f g) := PE.mono (pe_andT ha hb) fun σ H Q hq => by
  obtain ⟨I0, H0, I, k, ρ, d, k', F, e, q⟩ := hq
  obtain ⟨x, k1, e1, e⟩ := M.bind_some e
  obtain ⟨y, k2, e2, e⟩ := M.bind_some e
  obtain ⟨e3, rfl⟩ := M.lift_some e2
  refine ⟨I0, H0, I, k, ρ, x, _, F, e1, fun I1 H1 v s1 r1 => ⟨y, by rw [hK]; exact tru_rep s1.w.inH (.inl r1) e3, ?_⟩⟩
  cases y with
  | true => exact iteT ⟨I0, H0, I1, _, ρ, d, k', F.step s1, e, fun I2 H2 v s2 r => q I2 H2 v (s1.trans s2) r⟩
  | false =>
    obtain ⟨rfl, rfl⟩ := M.pure_some e
    exact iteF (q I1 H1 v s1 r1)
theorem de_or {f g : Sem} (hK : X.K = G.K) (ha : DE G X a f) (hb : DE G X (.BoolOp .Or (b :: rest) pos) g) : DE G X (.BoolOp .Or (a :: b :: rest) pos) (dOrV f g) := PE.mono (pe_orT ha hb) fun σ H Q hq => by
  obtain ⟨I0, H0, I, k, ρ, d, k', F, e, q⟩ := hq
  obtain ⟨x, k1, e1, e⟩ := M.bind_some e
  obtain ⟨y, k2, e2, e⟩ := M.bind_some e
  obtain ⟨e3, rfl⟩ := M.lift_some e2
  refine ⟨I0, H0, I, k, ρ, x, _, F, e1, fun I1 H1 v s1 r1 => ⟨y, by rw [hK]; exact tru_rep s1.w.inH (.inl r1) e3, ?_⟩⟩
  cases y with
  | false => exact iteF ⟨I0, H0, I1, _, ρ, d, k', F.step s1, e, fun I2 H2 v s2 r => q I2 H2 v (s1.trans s2) r⟩
  | true =>
    obtain ⟨rfl, rfl⟩ := M.pure_some e
    exact iteT (q I1 H1 v s1 r1)
theorem de_not {f : Sem} (hK : X.K = G.K) (ha : DR G X a f) : DE G X (.UnaryOp .Not a pos) (dNotV f) := PE.mono (pe_notT ha) fun σ H Q hq => by
  obtain ⟨I0, H0, I, k, ρ, d, k', F, e, q⟩ := hq
  obtain ⟨x, k1, e1, e⟩ := M.bind_some e
  obtain ⟨y, k2, e2, e5⟩ := M.bind_some e
  obtain ⟨rfl, rfl⟩ := M.pure_some e5
  obtain ⟨e3, rfl⟩ := M.lift_some e2
  exact ⟨I0, H0, I, k, ρ, x, _, F, e1, fun I1 H1 v s1 r1 => ⟨y, by rw [hK]; exact tru_rep s1.w.inH r1 e3, q I1 H1 _ s1 (.bl _)⟩⟩
/-- -a -/
def D.neg : D → Option D
  | .int i => some (.int (-i))
  | _ => none
def dUn (g : D → Option D) (f : Sem) : Sem := fun ρ => M.bind (f ρ) fun x => M.lift (g x)
theorem de_neg {f : Sem} (ha : DE G X a f) : DE G X (.UnaryOp .USub a pos) (dUn D.neg f) := PE.mono (pe_un un_neg ha) fun σ H Q hq => by
  obtain ⟨I0, H0, I, k, ρ, d, k', F, e, q⟩ := hq
  obtain ⟨x, k1, e1, e⟩ := M.bind_some e
  obtain ⟨e3, rfl⟩ := M.lift_some e
  refine ⟨I0, H0, I, k, ρ, x, _, F, e1, fun I1 H1 v s1 r1 => ?_⟩
  cases x <;> simp only [D.neg] at e3 <;> cases e3
  cases r1
  exact ⟨_, rfl, q I1 H1 _ s1 (.int _)⟩

-- ### a op b op c 
def dChain (g g' : D → D → Option Bool) (f1 f2 f3 : Sem) : SemB := fun ρ => M.bind (f1 ρ) fun x => M.bind (f2 ρ) fun y => M.bind (M.lift (g x y)) fun b => match b with
  | true => M.bind (f3 ρ) fun z => M.lift (g' y z)
  | false => M.pure false
theorem td_chain {r r' : R2} {g g' : D → D → Option Bool} (hr : RDB G r g) (hr' : RDB G r' g') {f1 f2 f3 : Sem} {σ : List (Option V)} {H : Hp} {Q : Bool → Hp → Prop} (hq : tDB G (dChain g g' f1 f2 f3) σ H Q) :
    tChain r r' (tDR G f1) (tDR G f2) (tDR G f3) σ H fun x H' => ∃ k, x = .bl k ∧ Q k H' := by
  obtain ⟨I0, H0, I, k, ρ, d, k', F, e, q⟩ := hq
  obtain ⟨x, k1, e1, e⟩ := M.bind_some e
  obtain ⟨y, k2, e2, e⟩ := M.bind_some e
  obtain ⟨b, k3, e3, e⟩ := M.bind_some e
  obtain ⟨e4, rfl⟩ := M.lift_some e3
  refine ⟨I0, H0, I, k, ρ, x, k1, F, e1, fun I1 H1 v s1 r1 => ⟨I0, H0, I1, k1, ρ, y, _, F.step s1, e2, fun I2 H2 u s2 r2 => ?_⟩⟩
  refine hr I2 H2 _ v u x y (.bl b) _ s2.w (r1.step s2) r2 (by show (g x y).map D.bl = _; rw [e4]; rfl) fun I3 H3 z s3 r3 => ?_
  cases r3
  refine ⟨b, rfl, ?_⟩
  cases b with
  | false =>
    obtain ⟨rfl, rfl⟩ := M.pure_some e
    exact iteF ⟨_, rfl, q I3 H3 ((s1.trans s2).trans s3)⟩
  | true =>
    obtain ⟨z, k4, e5, e⟩ := M.bind_some e
    obtain ⟨e6, rfl⟩ := M.lift_some e
    refine iteT ⟨I0, H0, I3, _, ρ, z, _, (F.step s1).step (s2.trans s3), e5, fun I4 H4 w s4 r4 => ?_⟩
    refine hr' I4 H4 _ u w y z (.bl d) _ s4.w ((r2.step s3).step s4) r4 (by show (g' y z).map D.bl = _; rw [e6]; rfl) fun I5 H5 z5 s5 r5 => ?_
    cases r5
    exact ⟨_, rfl, q I5 H5 ((((s1.trans s2).trans s3).trans s4).trans s5)⟩
theorem dt_chain {op op' : CmpOp} {r r' : R2} {g g' : D → D → Option Bool} {f1 f2 f3 : Sem} (ho : OpR X (compareOp op) r) (ho' : OpR X (compareOp op') r') (hr : RDB G r g) (hr' : RDB G r' g') (ha : DR G X a f1) (hb : DR G X b f2) (hc : DR G X c f3)
    (hm : lastMarks [op, op'] [b, c] = false) : DT G X (.Compare a [op, op'] [b, c] pos) (dChain g g' f1 f2 f3) := PT.mono (pt_chain ho ho' ha hb hc hm) fun _ _ _ h => td_chain hr hr' h
/-- a test's outcome, as a value -/
def dVal (t : SemB) : Sem := fun ρ => M.bind (t ρ) fun b => M.pure (.bl b)
theorem td_val {t : SemB} {σ : List (Option V)} {H : Hp} {Q : VK} (hq : tD G (dVal t) σ H Q) : tDB G t σ H fun b H' => Q (.bl b) H' := by
  obtain ⟨I0, H0, I, k, ρ, d, k', F, e, q⟩ := hq
  obtain ⟨x, k1, e1, e⟩ := M.bind_some e
  obtain ⟨rfl, rfl⟩ := M.pure_some e
  exact ⟨I0, H0, I, k, ρ, x, _, F, e1, fun I1 H1 s1 => q I1 H1 _ s1 (.bl _)⟩
theorem tChain_mono {r r' : R2} {ta tb tc : TE} (hra : ∀ {x y H Q Q'}, (∀ v H, Q v H → Q' v H) → r x y H Q → r x y H Q') : True := trivial
theorem de_chain {op op' : CmpOp} {r r' : R2} {g g' : D → D → Option Bool} {f1 f2 f3 : Sem} (ho : OpR X (compareOp op) r) (ho' : OpR X (compareOp op') r') (hr : RDB G r g) (hr' : RDB G r' g') (ha : DR G X a f1) (hb : DR G X b f2) (hc : DR G X c f3)
    (hm : lastMarks [op, op'] [b, c] = false) : DE G X (.Compare a [op, op'] [b, c] pos) (dVal (dChain g g' f1 f2 f3)) := PE.mono (pe_chain ho ho' ha hb hc hm) fun σ H Q hq => by
  have h := td_val hq
  obtain ⟨I0, H0, I, k, ρ, d, k', F, e, q⟩ := h
  obtain ⟨x, k1, e1, e⟩ := M.bind_some e
  obtain ⟨y, k2, e2, e⟩ := M.bind_some e
  obtain ⟨b, k3, e3, e⟩ := M.bind_some e
  obtain ⟨e4, rfl⟩ := M.lift_some e3
  refine ⟨I0, H0, I, k, ρ, x, k1, F, e1, fun I1 H1 v s1 r1 => ⟨I0, H0, I1, k1, ρ, y, _, F.step s1, e2, fun I2 H2 u s2 r2 => ?_⟩⟩
  refine hr I2 H2 _ v u x y (.bl b) _ s2.w (r1.step s2) r2 (by show (g x y).map D.bl = _; rw [e4]; rfl) fun I3 H3 z s3 r3 => ?_
  cases r3
  refine ⟨b, rfl, ?_⟩
  cases b with
  | false =>
    obtain ⟨rfl, rfl⟩ := M.pure_some e
    exact iteF (q I3 H3 ((s1.trans s2).trans s3))
  | true =>
    obtain ⟨z, k4, e5, e⟩ := M.bind_some e
    obtain ⟨e6, rfl⟩ := M.lift_some e
    refine iteT ⟨I0, H0, I3, _, ρ, z, _, (F.step s1).step (s2.trans s3), e5, fun I4 H4 w s4 r4 => ?_⟩
    refine hr' I4 H4 _ u w y z (.bl d) _ s4.w ((r2.step s3).step s4) r4 (by show (g' y z).map D.bl = _; rw [e6]; rfl) fun I5 H5 z5 s5 r5 => ?_
    cases r5
    exact q I5 H5 ((((s1.trans s2).trans s3).trans s4).trans s5)

-- ### arguments, displays 
def dNil : SemL := fun _ k => some ([], k)
def dCons (f : Sem) (g : SemL) : SemL := fun ρ => M.bind (f ρ) fun x => M.bind (g ρ) fun xs => M.pure (x :: xs)
theorem da_nil : DA G X [] dNil := PA.mono pa_nil fun σ H Q hq => by
  obtain ⟨I0, H0, I, k, ρ, d, k', F, e, q⟩ := hq
  cases e
  exact q I H [] (Step.refl F.w) .nil
theorem da_cons {e : Expr} {es : List Expr} {f : Sem} {g : SemL} (ha : DE G X e f) (hr : DA G X es g) (hs : starEach (e :: es) X.env = (false, eval e X.env) :: starEach es X.env) : DA G X (e :: es) (dCons f g) := PA.mono (pa_cons ha hr hs) fun σ H Q hq => by
  obtain ⟨I0, H0, I, k, ρ, d, k', F, e, q⟩ := hq
  obtain ⟨x, k1, e1, e⟩ := M.bind_some e
  obtain ⟨y, k2, e2, e⟩ := M.bind_some e
  obtain ⟨rfl, rfl⟩ := M.pure_some e
  exact ⟨I0, H0, I, k, ρ, x, k1, F, e1, fun I1 H1 v s1 r1 => ⟨I0, H0, I1, k1, ρ, y, _, F.step s1, e2, fun I2 H2 u s2 r2 => q I2 H2 _ (s1.trans s2) (.cons (r1.sub s2.sub) r2)⟩⟩
def dTup (f : SemL) : Sem := fun ρ => M.bind (f ρ) fun xs => M.lift (if lim xs.length then some (.tup xs) else none)
def dLst (f : SemL) : Sem := fun ρ => M.bind (f ρ) fun xs => M.lift (if lim xs.length then some (.lst xs) else none)
theorem de_tup {es : List Expr} {f : SemL} {x1} (h : DA G X es f) : DE G X (.Tuple es x1 pos) (dTup f) := PE.mono (pe_tup h) fun σ H Q hq => by
  obtain ⟨I0, H0, I, k, ρ, d, k', F, e, q⟩ := hq
  obtain ⟨x, k1, e1, e⟩ := M.bind_some e
  obtain ⟨e3, rfl⟩ := M.lift_some e
  by_cases c : lim x.length = true
  · rw [if_pos c] at e3; cases e3
    refine ⟨I0, H0, I, k, ρ, x, _, F, e1, fun I1 H1 vs s1 r1 => ⟨by rw [r1.length]; exact lim_ok c, fun p hp => ?_⟩⟩
    obtain ⟨s2, r2⟩ := new_tup s1.w hp r1
    exact q _ _ _ (s1.trans s2) r2
  · rw [if_neg c] at e3; cases e3
theorem de_lst {es : List Expr} {f : SemL} (h : DA G X es f) : DE G X (.List es pos) (dLst f) := PE.mono (pe_lst h) fun σ H Q hq => by
  obtain ⟨I0, H0, I, k, ρ, d, k', F, e, q⟩ := hq
  obtain ⟨x, k1, e1, e⟩ := M.bind_some e
  obtain ⟨e3, rfl⟩ := M.lift_some e
  by_cases c : lim x.length = true
  · rw [if_pos c] at e3; cases e3
    refine ⟨I0, H0, I, k, ρ, x, _, F, e1, fun I1 H1 vs s1 r1 => ⟨by rw [r1.length]; exact lim_ok c, fun p hp => ?_⟩⟩
    obtain ⟨s2, r2⟩ := new_lst s1.w hp r1
    exact q _ _ _ (s1.trans s2) r2
  · rw [if_neg c] at e3; cases e3

-- ### xs[i] 
def D.ix : D → D → Option D
  | .tup xs, .int i => atI xs i
  | .lst xs, .int i => atI xs i
  | .str z, .int i => if lim z.length then (atI z.cps.toList i).map fun c => .str ⟨#[c]⟩ else none
  | _, _ => none
theorem atI_rep {I : Hp} {vs : List V} {ds : List D} {i : Int} {d : D} (r : RepL G I vs ds) (h : atI ds i = some d) : ∃ v, atI vs i = some v ∧ Rep G I v d := by
  unfold atI at h ⊢
  rw [r.length]
  cases e : ixN ds.length i with
  | none => rw [e] at h; cases h
  | some j => rw [e] at h; exact r.get h
theorem rd_ix : RD2 G (rIx G.K) D.ix := by
  intro I H k x y d e z Q w hx hy hz q
  cases d <;> cases e <;> simp only [D.ix] at hz <;> try cases hz
  · rename_i s i
    cases hx.str; cases hy.int
    by_cases c : lim s.length = true
    · rw [if_pos c] at hz
      cases e : atI s.cps.toList i with
      | none => rw [e] at hz; cases hz
      | some c' =>
        rw [e] at hz; cases hz
        exact .inr (.inr ⟨s, i, c', rfl, rfl, lim_ok c, e, q I H _ (Step.refl w) (.str _)⟩)
    · rw [if_neg c] at hz; cases hz
  · rename_i xs i
    cases hy.int
    obtain ⟨a, vs, rfl, h1, r⟩ := hx.tup w.inH
    obtain ⟨v, e, rv⟩ := atI_rep r hz
    exact .inr (.inl ⟨a, vs, i, v, rfl, rfl, h1, e, q I H v (Step.refl w) rv⟩)
  · rename_i xs i
    cases hy.int
    obtain ⟨a, vs, rfl, h1, r⟩ := hx.lst w.inH
    obtain ⟨v, e, rv⟩ := atI_rep r hz
    exact .inl ⟨a, vs, i, v, rfl, rfl, SqL.of h1, e, q I H v (Step.refl w) rv⟩
theorem de_ix {f1 f2 : Sem} (hK : X.K = G.K) (ha : DR G X a f1) (hb : DR G X b f2) (hs : PlainIx b) : DE G X (.Subscript a b pos) (dBin D.ix f1 f2) :=
  PE.mono (pe_ix ix_seq ha hb hs) fun _ _ _ h => by rw [hK]; exact td_op rd_ix h

-- ### o.f 
def D.fld (f : Str) : D → Option D
  | .ins c ds => ((c.fields.zip ds).lookup f)
  | _ => none
theorem zip_lookup {I : Hp} {f : Str} : ∀ {ns : List Str} {vs : List V} {ds : List D} {d : D}, RepL G I vs ds → (ns.zip ds).lookup f = some d → ∃ v, (ns.zip vs).lookup f = some v ∧ Rep G I v d
  | [], _, _, _, _, h => by simp at h
  | _ :: _, _, _, _, .nil, h => by simp at h
  | n :: ns, _, _, d, .cons (v := v) (d := d0) h t, e => by
    simp only [List.zip_cons_cons, List.lookup_cons] at e ⊢
    cases q : (f == n) with
    | true => rw [q] at e; cases e; exact ⟨v, rfl, h⟩
    | false => rw [q] at e; exact zip_lookup t e
/-- what must be known of a class for its fields -/
structure ClsOk (G : Gh) (c : Cn) (C : Addr) : Prop where
  cl : Cls G.K C
  no : ∀ f ∈ c.fields, NoAttr G.K C f
def dFld (f : Str) (g : Sem) : Sem := dUn (D.fld f) g
theorem lookup_mem {α : Type} {f : Str} : ∀ {ns : List Str} {ds : List α} {d : α}, (ns.zip ds).lookup f = some d → f ∈ ns
  | [], _, _, h => by simp at h
  | _ :: _, [], _, h => by simp at h
  | n :: ns, d0 :: ds, d, e => by
    simp only [List.zip_cons_cons, List.lookup_cons] at e
    cases q : (f == n) with
    | true => rw [beq_iff_eq.mp q]; exact List.mem_cons_self
    | false => rw [q] at e; exact List.mem_cons_of_mem _ (lookup_mem e)
theorem de_fld {g : Sem} {f : Str} (hK : X.K = G.K) (hC : ∀ c C, G.cls c = some C → ClsOk G c C) (ha : DE G X a g) (hb : attributeBase a f X.env (eval a X.env) = eval a X.env) : DE G X (.Attribute a f pos) (dFld f g) := PE.mono (pe_fld ha hb) fun σ H Q hq => by
  obtain ⟨I0, H0, I, k, ρ, d, k', F, e, q⟩ := hq
  obtain ⟨x, k1, e1, e⟩ := M.bind_some e
  obtain ⟨e3, rfl⟩ := M.lift_some e
  refine ⟨I0, H0, I, k, ρ, x, _, F, e1, fun I1 H1 v s1 r1 => ?_⟩
  cases x <;> simp only [D.fld] at e3 <;> try cases e3
  rename_i c ds
  cases r1 with
  | ins h hc hl r =>
    obtain ⟨v, e4, rv⟩ := zip_lookup r e3
    have ok := hC _ _ hc
    rw [hK]
    exact ⟨_, _, _, _, v, rfl, s1.w.inH _ _ h, ok.cl, ok.no f (lookup_mem e3), e4, q I1 H1 v s1 rv⟩
end
end Sky

end
section
-- SkyD: calls by data: defs, classes made, methods, built-ins. 
namespace Sky
open PySem PySem.Spec PyProof.Rows L2

abbrev Fn := List D → M D
/-- a def's promise: n arguments, the function F of their data -/
def spM (G : Gh) (n : Nat) (F : Fn) : Sp := fun vs H Q _ => vs.length = n ∧ ∃ (da : Option Addr) (me : Option (Addr × Addr × Addr)) (I : Hp) (k : Nat) (ds : List D) (d : D) (k' : Nat), WOk { G with da := da, me := me } I H k ∧ RepL { G with da := da, me := me } I vs ds ∧
  F ds k = some (d, k') ∧ ∀ I' H' v, Step { G with da := da, me := me } I H I' H' k' → Rep { G with da := da, me := me } I' v d → Q v H'
/-- what a name of the module's stands for, as a def -/
def CallOk (G : Gh) (X : Cx) (x : Str) (n : Nat) (F : Fn) : Prop :=
  ∃ (j : Nat) (f : Addr) (fd : FuncData) (ps : List Str), X.mg x = some (.ref f) ∧ PySem.W.keepIn X.K (.ref f) = true ∧ FnOk X.prog X.w X.K X.mg X.base CX0 j f fd ps (spM G n F) ∧ Room j X.A ∧ Binds X.K fd ps []
def dCall (n : Nat) (F : Fn) (g : SemL) : Sem := fun ρ => M.bind (g ρ) fun ds => match Nat.beq ds.length n with
  | true => F ds
  | false => M.fail
theorem dCall_some {n : Nat} {F : Fn} {g : SemL} {ρ : Env} {k : Nat} {r : D × Nat} (h : dCall n F g ρ k = some r) : ∃ ds k1, g ρ k = some (ds, k1) ∧ ds.length = n ∧ F ds k1 = some r := by
  obtain ⟨ds, k1, e1, e⟩ := M.bind_some h
  cases c : Nat.beq ds.length n with
  | true => rw [c] at e; exact ⟨ds, k1, e1, Nat.eq_of_beq_eq_true c, e⟩
  | false => rw [c] at e; cases e
section
variable {G : Gh} {X : Cx} {a e : Expr} {es : List Expr} {p pos apos : Pos} {x : Str}
theorem td_call {n : Nat} {F : Fn} {g : SemL} {E : XK} {σ : List (Option V)} {H : Hp} {Q : VK} (hq : tD G (dCall n F g) σ H Q) : tCall (spM G n F) [] E (tDL G g) σ H Q := by
  obtain ⟨I0, H0, I, k, ρ, d, k', Fr, e, q⟩ := hq
  obtain ⟨ds, k1, e1, e2, e3⟩ := dCall_some e
  refine ⟨I0, H0, I, k, ρ, ds, k1, Fr, e1, fun I1 H1 vs s1 r1 => ?_⟩
  show spM G n F (vs ++ []) H1 Q E
  rw [List.append_nil]
  exact ⟨by rw [r1.length]; exact e2, G.da, G.me, I1, k1, ds, d, k', s1.w, r1, e3, fun I2 H2 v s2 r2 => q I2 H2 v (s1.trans s2) r2⟩
theorem de_call {n : Nat} {F : Fn} {g : SemL} (h : CallOk G X x n F) (hg : Gl X x) (ha : DA G X (e :: es) g) (hdb : (x == ("__debug__" : Str)) = false) (he : starEach (e :: es) X.env = (false, eval e X.env) :: starEach es X.env)
    (hpl : (backTo pos (starEach es X.env)).any (·.1) = false) : DE G X (.Call (.Name x p) (e :: es) [] pos) (dCall n F g) := by
  obtain ⟨j, f, fd, ps, hm, hk, hF, hr, hb⟩ := h
  exact PE.mono (pe_call hF hr hg hm hk hb .nil pass0 ha hdb he hpl) fun _ _ _ hq => td_call hq
theorem de_call0 {n : Nat} {F : Fn} (h : CallOk G X x n F) (hg : Gl X x) (hdb : (x == ("__debug__" : Str)) = false) : DE G X (.Call (.Name x p) [] [] pos) (dCall n F dNil) := by
  obtain ⟨j, f, fd, ps, hm, hk, hF, hr, hb⟩ := h
  refine PE.mono (pe_call0 hF hr hg hm hk hb .nil pass0 hdb) fun σ H Q hq => ?_
  obtain ⟨I0, H0, I, k, ρ, d, k', Fr, e, q⟩ := hq
  obtain ⟨ds, k1, e1, e2, e3⟩ := dCall_some e
  cases e1
  exact ⟨e2, G.da, G.me, I, k, [], d, k', Fr.w, .nil, e3, fun I2 H2 v s2 r2 => q I2 H2 v s2 r2⟩

-- ### a class made 
abbrev FnI := List D → M (List D)
/-- what an __init__ promises: the attributes' data -/
def spI (G : Gh) (c : Cn) (n : Nat) (F : FnI) : Sp := fun vs H Q _ => vs.length = n + 1 ∧ ∃ (da : Option Addr) (me : Option (Addr × Addr × Addr)) (I H1 : Hp) (k : Nat) (ds fs : List D) (k' : Nat) (x dx C : Addr) (as : List V), vs = .ref x :: as ∧ H = upd (upd H1 dx (.own x)) x (.ins C dx []) ∧
  H1 x = none ∧ H1 dx = none ∧ dx ≠ x ∧ G.cls c = some C ∧ WOk { G with da := da, me := me } I H1 k ∧ RepL { G with da := da, me := me } I as ds ∧ F ds k = some (fs, k') ∧ fs.length = c.fields.length ∧
  ∀ I' H' ws, Step { G with da := da, me := me } I H1 I' H' k' → I' x = none → H' x = some (.ins C dx (c.fields.zip ws)) → RepL { G with da := da, me := me } I' ws fs → Q .non H'
def MakeOk (G : Gh) (X : Cx) (x : Str) (c : Cn) (n : Nat) (F : FnI) : Prop :=
  ∃ (j : Nat) (f C : Addr) (fd : FuncData) (ps : List Str), X.mg x = some (.ref C) ∧ G.cls c = some C ∧ Mk X.K C f ∧ FnOk X.prog X.w X.K X.mg X.base CX0 j f fd ps (spI G c n F) ∧ Room (j + 1) X.A ∧ Binds X.K fd ps []
def dMake (c : Cn) (n : Nat) (F : FnI) (g : SemL) : Sem := fun ρ => M.bind (g ρ) fun ds => match Nat.beq ds.length n with
  | true => M.bind (F ds) fun fs => match Nat.beq fs.length c.fields.length with
    | true => M.pure (.ins c fs)
    | false => M.fail
  | false => M.fail
theorem dMake_some {c : Cn} {n : Nat} {F : FnI} {g : SemL} {ρ : Env} {k : Nat} {d : D} {k' : Nat} (h : dMake c n F g ρ k = some (d, k')) :
    ∃ ds k1 fs, g ρ k = some (ds, k1) ∧ ds.length = n ∧ F ds k1 = some (fs, k') ∧ fs.length = c.fields.length ∧ d = .ins c fs := by
  obtain ⟨ds, k1, e1, e⟩ := M.bind_some h
  cases q : Nat.beq ds.length n with
  | false => rw [q] at e; cases e
  | true =>
    rw [q] at e
    obtain ⟨fs, k2, e2, e⟩ := M.bind_some e
    cases q2 : Nat.beq fs.length c.fields.length with
    | false => rw [q2] at e; cases e
    | true =>
      rw [q2] at e
      obtain ⟨rfl, rfl⟩ := M.pure_some e
      exact ⟨ds, k1, fs, e1, Nat.eq_of_beq_eq_true q, e2, Nat.eq_of_beq_eq_true q2, rfl⟩
/-- an object that is laid, then written: nothing else knows of it -/
theorem Step.keep {I H I' H' : Hp} {k' : Nat} {x : Addr} {o : HO} (s : Step G I H I' H' k') (hx : H x = none) (hI : I' x = none) (ho : H' x = some o) (hd : G.da ≠ some x) : Step G I H (upd I' x o) H' k' where
  w := ⟨fun a u e => by
    by_cases q : a = x
    · subst q; rw [upd_same] at e; cases e; exact ho
    · rw [upd_ne q] at e; exact s.w.inH a u e, s.w.scr, fun d hd' => by
      obtain ⟨h1, h2, h3⟩ := s.w.drw d hd'
      have q : d ≠ x := fun e => hd (by rw [← e]; exact hd')
      exact ⟨h1, by rw [upd_ne q]; exact h2, h3⟩⟩
  sub := fun a u e => by
    by_cases q : a = x
    · subst q
      have := s.sub a u e
      rw [hI] at this; cases this
    · rw [upd_ne q]; exact s.sub a u e
  new := fun a u e => by
    by_cases q : a = x
    · subst q; exact .inr hx
    · rw [upd_ne q] at e; exact s.new a u e
  same := s.same
theorem WOk.ne {I H : Hp} {k : Nat} {x : Addr} (w : WOk G I H k) (hx : H x = none) : G.da ≠ some x := fun e => by
  have := (w.drw x e).2.2
  rw [hx] at this; cases this
theorem td_make {c : Cn} {n : Nat} {F : FnI} {g : SemL} {C : Addr} {E : XK} {σ : List (Option V)} {H : Hp} {Q : VK} (hC : G.cls c = some C) (hq : tD G (dMake c n F g) σ H Q) : tMake C (spI G c n F) [] E (tDL G g) σ H Q := by
  obtain ⟨I0, H0, I, k, ρ, d, k', Fr, e, q⟩ := hq
  obtain ⟨ds, k1, fs, e1, e2, e3, e4, rfl⟩ := dMake_some e
  refine ⟨I0, H0, I, k, ρ, ds, k1, Fr, e1, fun I1 H1 vs s1 r1 x dx hx hdx hne => ?_⟩
  rw [List.append_nil]
  refine ⟨by rw [List.length_cons, r1.length, e2], G.da, G.me, I1, H1, k1, ds, fs, k', x, dx, C, vs, rfl, rfl, hx, hdx, hne, hC, s1.w, r1, e3, e4, fun I2 H2 ws s2 h1 h2 r2 => ⟨rfl, ?_⟩⟩
  have s3 := Step.keep (o := .ins C dx (c.fields.zip ws)) s2 hx h1 h2 (s1.w.ne hx)
  exact q _ _ _ (s1.trans s3) (.ins upd_same hC (by rw [r2.length]; exact e4) (r2.sub fun a u e => by rw [upd_ne (fun z => by rw [z, h1] at e; cases e)]; exact e))
theorem de_make {c : Cn} {n : Nat} {F : FnI} {g : SemL} (h : MakeOk G X x c n F) (hg : Gl X x) (ha : DA G X (e :: es) g) (hdb : (x == ("__debug__" : Str)) = false) (he : starEach (e :: es) X.env = (false, eval e X.env) :: starEach es X.env)
    (hpl : (backTo pos (starEach es X.env)).any (·.1) = false) : DE G X (.Call (.Name x p) (e :: es) [] pos) (dMake c n F g) := by
  obtain ⟨j, f, C, fd, ps, hm, hC, hM, hF, hr, hb⟩ := h
  exact PE.mono (pe_make hM hF hr hg hm hb .nil pass0 ha hdb he hpl) fun _ _ _ hq => td_make hC hq

-- ### methods of own classes 
def MethOk (G : Gh) (X : Cx) (c : Cn) (m : Str) (n : Nat) (F : Fn) : Prop := ∀ C, G.cls c = some C →
  ∃ (j : Nat) (f : Addr) (fd : FuncData) (ps : List Str), Cls X.K C ∧ Meth X.K C m f ∧ FnOk X.prog X.w X.K X.mg X.base CX0 j f fd ps (spM G (n + 1) F) ∧ Room j X.A ∧ Binds X.K fd ps [] ∧ m ∉ c.fields
/-- by the class of what the method is asked of -/
abbrev Mt := Cn → Str → Option (Nat × Fn)
def dMeth (mt : Mt) (m : Str) (f : Sem) (g : SemL) : Sem := fun ρ => M.bind (f ρ) fun x => match x with
  | .ins c fs => (match mt c m with
    | some (n, F) => M.bind (g ρ) fun ds => (match Nat.beq ds.length n with
      | true => F (.ins c fs :: ds)
      | false => M.fail)
    | none => M.fail)
  | _ => M.fail
theorem dMeth_some {mt : Mt} {m : Str} {f : Sem} {g : SemL} {ρ : Env} {k : Nat} {r : D × Nat} (h : dMeth mt m f g ρ k = some r) :
    ∃ c fs k1 n F ds k2, f ρ k = some (.ins c fs, k1) ∧ mt c m = some (n, F) ∧ g ρ k1 = some (ds, k2) ∧ ds.length = n ∧ F (.ins c fs :: ds) k2 = some r := by
  obtain ⟨x, k1, e1, e⟩ := M.bind_some h
  cases x <;> try cases e
  rename_i c fs
  simp only at e
  cases q : mt c m with
  | none => rw [q] at e; cases e
  | some p =>
    obtain ⟨n, F⟩ := p
    rw [q] at e
    obtain ⟨ds, k2, e2, e⟩ := M.bind_some e
    cases q2 : Nat.beq ds.length n with
    | false => rw [q2] at e; cases e
    | true => rw [q2] at e; exact ⟨c, fs, k1, n, F, ds, k2, e1, q, e2, Nat.eq_of_beq_eq_true q2, e⟩
theorem ins_lookup {c : Cn} {vs : List V} {m : Str} (h : m ∉ c.fields) : (c.fields.zip vs).lookup m = none := by
  cases e : (c.fields.zip vs).lookup m with
  | none => rfl
  | some v => exact absurd (lookup_mem e) h
theorem de_meth {mt : Mt} {m : Str} {f : Sem} {g : SemL} {o : Expr} {pl : PySem.Sem Bool} (hM : ∀ c n F, mt c m = some (n, F) → MethOk G X c m n F) (ho : DE G X o f) (ha : DA G X (e :: es) g)
    (hst : starEach (e :: es) X.env = (false, eval e X.env) :: starEach es X.env) (hpl : (backTo pos (starEach es X.env)).any (·.1) = false)
    (ht : eval (.Call (.Attribute o m apos) (e :: es) [] pos) X.env = (do
      let ov ← eval o X.env
      standAt apos.atName
      let (f, first) ← holding [ov] (getMethod ov m pl)
      callWith pos f first (backTo pos (starEach (e :: es) X.env)) (backToKw pos (keywordEach [] X.env)))) : DE G X (.Call (.Attribute o m apos) (e :: es) [] pos) (dMeth mt m f g) := by
  refine ⟨fun pins s σ H Q I hq => ?_⟩
  obtain ⟨I0, H0, Ih, k, ρ, d, k', Fr, e, q⟩ := id hq
  obtain ⟨c, fs, k1, n, F, ds, k2, e1, e2, e3, e4, e5⟩ := dMeth_some e
  refine PySem.W.methodCall_KW (pl := pl) (thn (ho.run pins s σ H (fun v H1 => ∃ I1, Step G Ih H I1 H1 k1 ∧ Rep G I1 v (.ins c fs)) I ⟨I0, H0, Ih, k, ρ, _, k1, Fr, e1, fun I1 H1 v s1 r1 => ⟨I1, s1, r1⟩⟩) fun u s1 ⟨x, H1, J1, rx, I1, t1, r1⟩ => ?_) ht
  cases r1 with
  | @ins a C dx _ vs _ h hc hl rr =>
    obtain rfl : u = Value.ref a := rx
    obtain ⟨j, f, fd, ps, cl, hm, hF, hr, hb, hno⟩ := hM c n F e2 C hc
    refine getmeth_ok J1 (t1.w.inH _ _ h) cl hm (ins_lookup hno) ?_
    refine PySem.W.callWith_K (first := [.ref a]) (h₀ := X.base) J1.ok.mod.kin hm.kp (thn (ha.run pos pins s1 σ H1 (fun us H2 => ∃ I2, Step G I1 H1 I2 H2 k2 ∧ RepL G I2 us ds) J1 ⟨I0, H0, I1, k1, ρ, ds, k2, Fr.step t1, e3, fun I2 H2 us t2 r2 => ⟨I2, t2, r2⟩⟩) fun us s2 ⟨ws, H2, J2, r, I2, t2, r2⟩ => ⟨J2.kIn, ?_⟩) hst hpl
    refine run_fn (us := .ref a :: us) (vs := .ref a :: ws) hF hr hb .nil (E := E0) pass0 J2 (.cons rfl r) ?_
    rw [List.append_nil]
    exact ⟨by rw [List.length_cons, r2.length, e4], G.da, G.me, I2, k2, _, d, k', t2.w, .cons (.ins (t2.sub _ _ h) hc hl (rr.sub t2.sub)) r2, e5, fun I3 H3 v t3 r3 => q I3 H3 v ((t1.trans t2).trans t3) r3⟩
theorem de_meth0 {mt : Mt} {m : Str} {f : Sem} {o : Expr} {pl : PySem.Sem Bool} (hM : ∀ c n F, mt c m = some (n, F) → MethOk G X c m n F) (ho : DE G X o f)
    (ht : eval (.Call (.Attribute o m apos) [] [] pos) X.env = (do
      let ov ← eval o X.env
      standAt apos.atName
      let (f, first) ← holding [ov] (getMethod ov m pl)
      callWith pos f first (backTo pos (starEach [] X.env)) (backToKw pos (keywordEach [] X.env)))) : DE G X (.Call (.Attribute o m apos) [] [] pos) (dMeth mt m f dNil) := by
  refine ⟨fun pins s σ H Q I hq => ?_⟩
  obtain ⟨I0, H0, Ih, k, ρ, d, k', Fr, e, q⟩ := id hq
  obtain ⟨c, fs, k1, n, F, ds, k2, e1, e2, e3, e4, e5⟩ := dMeth_some e
  cases e3
  refine PySem.W.methodCall_KW (pl := pl) (thn (ho.run pins s σ H (fun v H1 => ∃ I1, Step G Ih H I1 H1 k1 ∧ Rep G I1 v (.ins c fs)) I ⟨I0, H0, Ih, k, ρ, _, k1, Fr, e1, fun I1 H1 v s1 r1 => ⟨I1, s1, r1⟩⟩) fun u s1 ⟨x, H1, J1, rx, I1, t1, r1⟩ => ?_) ht
  cases r1 with
  | @ins a C dx _ vs _ h hc hl rr =>
    obtain rfl : u = Value.ref a := rx
    obtain ⟨j, f, fd, ps, cl, hm, hF, hr, hb, hno⟩ := hM c n F e2 C hc
    refine getmeth_ok J1 (t1.w.inH _ _ h) cl hm (ins_lookup hno) ?_
    refine PySem.W.callWith_K0 (first := [.ref a]) J1.kIn hm.kp (run_fn (us := [.ref a]) (vs := [.ref a]) hF hr hb .nil (E := E0) pass0 J1 (.cons rfl .nil) ?_)
    rw [List.append_nil]
    exact ⟨by rw [List.length_singleton, ← e4]; rfl, G.da, G.me, I1, k1, _, d, k', t1.w, .cons (.ins h hc hl rr) .nil, e5, fun I3 H3 v t3 r3 => q I3 H3 v (t1.trans t3) r3⟩

-- ### built-ins, by values 
/-- a call's rule by values serves a function of data -/
def RDA (G : Gh) (r : List V → Hp → VK → Prop) (g : List D → Option D) : Prop :=
  ∀ (I H : Hp) (k : Nat) (vs : List V) (ds : List D) (z : D) (Q : VK), WOk G I H k → Paired (RepB G I H) vs ds → g ds = some z → (∀ I' H' v, Step G I H I' H' k → Rep G I' v z → Q v H') → r vs H Q
/-- arguments that are read for a moment -/
def tDRL (G : Gh) (f : SemL) : TA := fun σ H Q => ∃ I0 H0 I k ρ ds k', FI G I0 H0 I H k σ ρ ∧ f ρ k = some (ds, k') ∧ ∀ I' H' vs, Step G I H I' H' k' → Paired (RepB G I' H') vs ds → Q vs H'
abbrev DRA (G : Gh) (X : Cx) (es : List Expr) (f : SemL) : Prop := PA X es (tDRL G f)
theorem RepBs.step {I H I' H' : Hp} {k' : Nat} (s : Step G I H I' H' k') : ∀ {vs : List V} {ds : List D}, Paired (RepB G I H) vs ds → Paired (RepB G I' H') vs ds
  | _, _, .nil => .nil
  | _, _, .cons h t => .cons (h.step s) (RepBs.step s t)
theorem dra_nil : DRA G X [] dNil := PA.mono pa_nil fun σ H Q hq => by
  obtain ⟨I0, H0, I, k, ρ, d, k', F, e, q⟩ := hq
  cases e
  exact q I H [] (Step.refl F.w) .nil
theorem dra_cons {e : Expr} {es : List Expr} {f : Sem} {g : SemL} (ha : DR G X e f) (hr : DRA G X es g) (hs : starEach (e :: es) X.env = (false, eval e X.env) :: starEach es X.env) : DRA G X (e :: es) (dCons f g) := PA.mono (pa_cons ha hr hs) fun σ H Q hq => by
  obtain ⟨I0, H0, I, k, ρ, d, k', F, e, q⟩ := hq
  obtain ⟨x, k1, e1, e⟩ := M.bind_some e
  obtain ⟨y, k2, e2, e⟩ := M.bind_some e
  obtain ⟨rfl, rfl⟩ := M.pure_some e
  exact ⟨I0, H0, I, k, ρ, x, k1, F, e1, fun I1 H1 v s1 r1 => ⟨I0, H0, I1, k1, ρ, y, _, F.step s1, e2, fun I2 H2 u s2 r2 => q I2 H2 _ (s1.trans s2) (.cons (r1.step s2) r2)⟩⟩
def dBi (g : List D → Option D) (f : SemL) : Sem := fun ρ => M.bind (f ρ) fun xs => M.lift (g xs)
theorem td_bi {r : List V → Hp → VK → Prop} {g : List D → Option D} (hr : RDA G r g) {f : SemL} {σ : List (Option V)} {H : Hp} {Q : VK} (hq : tD G (dBi g f) σ H Q) : tCB r (tDRL G f) σ H Q := by
  obtain ⟨I0, H0, I, k, ρ, d, k', F, e, q⟩ := hq
  obtain ⟨x, k1, e1, e⟩ := M.bind_some e
  obtain ⟨e3, rfl⟩ := M.lift_some e
  exact ⟨I0, H0, I, k, ρ, x, _, F, e1, fun I1 H1 vs s1 r1 => hr I1 H1 _ vs x d Q s1.w r1 e3 fun I2 H2 v s2 r2 => q I2 H2 v (s1.trans s2) r2⟩
theorem de_callB {id : String} {r : List V → Hp → VK → Prop} {g : List D → Option D} {f : SemL} (hc : CallR X (.builtin id) r) (hr : RDA G r g) (hg : Gl X x) (hm : X.mg x = none) (hv : bootBuiltins x = some (.builtin id)) (ha : DRA G X (e :: es) f)
    (hn : x ≠ "__name__") (hdb : (x == ("__debug__" : Str)) = false) (he : starEach (e :: es) X.env = (false, eval e X.env) :: starEach es X.env) (hpl : (backTo pos (starEach es X.env)).any (·.1) = false) :
    DE G X (.Call (.Name x p) (e :: es) [] pos) (dBi g f) := PE.mono (pe_callB hc hg hm hv ha hn hdb he hpl) fun _ _ _ h => td_bi hr h
theorem de_callT {T : String} {r : List V → Hp → VK → Prop} {g : List D → Option D} {f : SemL} (hc : CallR X (.type T) r) (hr : RDA G r g) (hg : Gl X x) (hm : X.mg x = none) (hv : bootBuiltins x = some (.type T)) (ha : DRA G X (e :: es) f)
    (hn : x ≠ "__name__") (hdb : (x == ("__debug__" : Str)) = false) (he : starEach (e :: es) X.env = (false, eval e X.env) :: starEach es X.env) (hpl : (backTo pos (starEach es X.env)).any (·.1) = false) :
    DE G X (.Call (.Name x p) (e :: es) [] pos) (dBi g f) := PE.mono (pe_callTy hc hg hm hv ha hn hdb he hpl) fun _ _ _ h => td_bi hr h

-- ### len, abs, int, tuple, list, sum, all, any, max, min 
def bLen : List D → Option D
  | [.tup xs] => some (.int xs.length)
  | [.lst xs] => some (.int xs.length)
  | [.str z] => if lim z.length then some (.int z.length) else none
  | _ => none
end
end Sky

end
section
-- SkyE: built-ins by data; comparisons by data. 
namespace Sky
open PySem PySem.Spec PyProof.Rows L2
section
variable {G : Gh} {X : Cx}
theorem paired1 {α β : Type} {R : α → β → Prop} {vs : List α} {d : β} (h : Paired R vs [d]) : ∃ v, vs = [v] ∧ R v d := by
  cases h with
  | cons h t => cases t; exact ⟨_, rfl, h⟩
theorem paired2 {α β : Type} {R : α → β → Prop} {vs : List α} {d e : β} (h : Paired R vs [d, e]) : ∃ v u, vs = [v, u] ∧ R v d ∧ R u e := by
  cases h with
  | cons h t => cases t with | cons h' t => cases t; exact ⟨_, _, rfl, h, h'⟩
/-- a list of whole numbers -/
def intsD : List D → Option (List Int)
  | [] => some []
  | .int i :: ds => (intsD ds).map (i :: ·)
  | _ :: _ => none
theorem ints_rep {I : Hp} : ∀ {vs : List V} {ds : List D} {ns : List Int}, RepL G I vs ds → intsD ds = some ns → vs = ns.map V.int
  | _, _, _, .nil, h => by cases h; rfl
  | _, _, ns, .cons (d := d) (ds := ds) h t, e => by
    cases d <;> simp only [intsD] at e <;> try cases e
    cases q : intsD ds with
    | none => rw [q] at e; cases e
    | some ms => rw [q] at e; cases e; cases h; rw [ints_rep t q]; rfl
def boolsD : List D → Option (List Bool)
  | [] => some []
  | .bl i :: ds => (boolsD ds).map (i :: ·)
  | _ :: _ => none
theorem bools_rep {I : Hp} : ∀ {vs : List V} {ds : List D} {ns : List Bool}, RepL G I vs ds → boolsD ds = some ns → vs = ns.map V.bl
  | _, _, _, .nil, h => by cases h; rfl
  | _, _, ns, .cons (d := d) (ds := ds) h t, e => by
    cases d <;> simp only [boolsD] at e <;> try cases e
    cases q : boolsD ds with
    | none => rw [q] at e; cases e
    | some ms => rw [q] at e; cases e; cases h; rw [bools_rep t q]; rfl

theorem bLen_ok : RDA G (fun xs H Q => ∃ x n, xs = [x] ∧ LenV G.K x H n ∧ Q (.int n) H) bLen := by
  intro I H k vs ds z Q w hv hz q
  match ds, hv, hz with
  | [.tup xs], hv, hz =>
    simp only [bLen] at hz; cases hz
    obtain ⟨v, rfl, h⟩ := paired1 hv
    obtain ⟨a, us, rfl, h1, r⟩ := h.tup w.inH
    exact ⟨_, xs.length, rfl, .inr ⟨us, h1, r.length.symm⟩, q I H _ (Step.refl w) (.int _)⟩
  | [.lst xs], hv, hz =>
    simp only [bLen] at hz; cases hz
    obtain ⟨v, rfl, h⟩ := paired1 hv
    obtain ⟨a, us, rfl, h1, r⟩ := h.lst w.inH
    exact ⟨_, xs.length, rfl, .inl ⟨us, SqL.of h1, r.length.symm⟩, q I H _ (Step.refl w) (.int _)⟩
  | [.str s], hv, hz =>
    simp only [bLen] at hz
    obtain ⟨v, rfl, h⟩ := paired1 hv
    cases h.str
    by_cases c : lim s.length = true
    · rw [if_pos c] at hz; cases hz
      exact ⟨_, s.length, rfl, ⟨lim_ok c, rfl⟩, q I H _ (Step.refl w) (.int _)⟩
    · rw [if_neg c] at hz; cases hz
def bAbs : List D → Option D
  | [.int i] => some (.int (if i < 0 then -i else i))
  | _ => none
theorem bAbs_ok : RDA G (fun xs H Q => ∃ i, xs = [.int i] ∧ Q (.int (if i < 0 then -i else i)) H) bAbs := by
  intro I H k vs ds z Q w hv hz q
  match ds, hv, hz with
  | [.int i], hv, hz =>
    simp only [bAbs] at hz; cases hz
    obtain ⟨v, rfl, h⟩ := paired1 hv
    cases h.int
    exact ⟨i, rfl, q I H _ (Step.refl w) (.int _)⟩
def bInt : List D → Option D
  | [.int i] => some (.int i)
  | [.bl b] => some (.int (if b then 1 else 0))
  | _ => none
theorem bInt_ok : RDA G (fun xs H Q => (∃ i, xs = [.int i] ∧ Q (.int i) H) ∨ ∃ k, xs = [.bl k] ∧ Q (.int (if k then 1 else 0)) H) bInt := by
  intro I H k vs ds z Q w hv hz q
  match ds, hv, hz with
  | [.int i], hv, hz =>
    simp only [bInt] at hz; cases hz
    obtain ⟨v, rfl, h⟩ := paired1 hv
    cases h.int
    exact .inl ⟨i, rfl, q I H _ (Step.refl w) (.int _)⟩
  | [.bl b], hv, hz =>
    simp only [bInt] at hz; cases hz
    obtain ⟨v, rfl, h⟩ := paired1 hv
    cases h.bl
    exact .inr ⟨b, rfl, q I H _ (Step.refl w) (.int _)⟩
def bTup : List D → Option D
  | [.lst xs] => some (.tup xs)
  | [.tup xs] => some (.tup xs)
  | _ => none
theorem bTup_ok : RDA G (fun xs H Q => ∃ p ys, xs = [.ref p] ∧ ((SqL G.K H p ys ∧ ∀ l, H l = none → Q (.ref l) (upd H l (.tup ys))) ∨ (SqT G.K H p ys ∧ Q (.ref p) H))) bTup := by
  intro I H k vs ds z Q w hv hz q
  match ds, hv, hz with
  | [.lst xs], hv, hz =>
    simp only [bTup] at hz; cases hz
    obtain ⟨v, rfl, h⟩ := paired1 hv
    obtain ⟨a, us, rfl, h1, r⟩ := h.lst w.inH
    refine ⟨a, us, rfl, .inl ⟨SqL.of h1, fun l hl => ?_⟩⟩
    obtain ⟨s, rp⟩ := new_tup w hl r
    exact q _ _ _ s rp
  | [.tup xs], hv, hz =>
    simp only [bTup] at hz; cases hz
    obtain ⟨v, rfl, h⟩ := paired1 hv
    have hr : Rep G I v (.tup xs) := by
      rcases h with h | ⟨_, _, h, _⟩
      · exact h
      · exact False.elim h
    obtain ⟨a, us, rfl, h1, r⟩ := h.tup w.inH
    exact ⟨a, us, rfl, .inr ⟨h1, q I H _ (Step.refl w) hr⟩⟩
def bLst : List D → Option D
  | [.lst xs] => some (.lst xs)
  | [.tup xs] => some (.lst xs)
  | _ => none
theorem bLst_ok : RDA G (fun xs H Q => ∃ p ys, xs = [.ref p] ∧ (SqL G.K H p ys ∨ SqT G.K H p ys) ∧ ∀ l, H l = none → Q (.ref l) (upd H l (.lst ys))) bLst := by
  intro I H k vs ds z Q w hv hz q
  match ds, hv, hz with
  | [.lst xs], hv, hz =>
    simp only [bLst] at hz; cases hz
    obtain ⟨v, rfl, h⟩ := paired1 hv
    obtain ⟨a, us, rfl, h1, r⟩ := h.lst w.inH
    refine ⟨a, us, rfl, .inl (SqL.of h1), fun l hl => ?_⟩
    obtain ⟨s, rp⟩ := new_lst w hl r
    exact q _ _ _ s rp
  | [.tup xs], hv, hz =>
    simp only [bLst] at hz; cases hz
    obtain ⟨v, rfl, h⟩ := paired1 hv
    obtain ⟨a, us, rfl, h1, r⟩ := h.tup w.inH
    refine ⟨a, us, rfl, .inr h1, fun l hl => ?_⟩
    obtain ⟨s, rp⟩ := new_lst w hl r
    exact q _ _ _ s rp
def bSum : List D → Option D
  | [.lst xs] => (intsD xs).map fun ns => .int ns.sum
  | _ => none
theorem bSum_ok : RDA G (rSum G.K) bSum := by
  intro I H k vs ds z Q w hv hz q
  match ds, hv, hz with
  | [.lst xs], hv, hz =>
    simp only [bSum] at hz
    cases e : intsD xs with
    | none => rw [e] at hz; cases hz
    | some ns =>
      rw [e] at hz; cases hz
      obtain ⟨v, rfl, h⟩ := paired1 hv
      obtain ⟨a, us, rfl, h1, r⟩ := h.lst w.inH
      exact ⟨a, ns, rfl, SqL.of (by rw [← ints_rep r e]; exact h1), q I H _ (Step.refl w) (.int _)⟩
def bAll : List D → Option D
  | [.lst xs] => (boolsD xs).map fun ns => .bl (ns.all id)
  | _ => none
def bAny : List D → Option D
  | [.lst xs] => (boolsD xs).map fun ns => .bl (ns.any id)
  | _ => none
theorem bAll_ok : RDA G (rAll G.K) bAll := by
  intro I H k vs ds z Q w hv hz q
  match ds, hv, hz with
  | [.lst xs], hv, hz =>
    simp only [bAll] at hz
    cases e : boolsD xs with
    | none => rw [e] at hz; cases hz
    | some ns =>
      rw [e] at hz; cases hz
      obtain ⟨v, rfl, h⟩ := paired1 hv
      obtain ⟨a, us, rfl, h1, r⟩ := h.lst w.inH
      exact ⟨a, ns, rfl, SqL.of (by rw [← bools_rep r e]; exact h1), q I H _ (Step.refl w) (.bl _)⟩
theorem bAny_ok : RDA G (rAny G.K) bAny := by
  intro I H k vs ds z Q w hv hz q
  match ds, hv, hz with
  | [.lst xs], hv, hz =>
    simp only [bAny] at hz
    cases e : boolsD xs with
    | none => rw [e] at hz; cases hz
    | some ns =>
      rw [e] at hz; cases hz
      obtain ⟨v, rfl, h⟩ := paired1 hv
      obtain ⟨a, us, rfl, h1, r⟩ := h.lst w.inH
      exact ⟨a, ns, rfl, SqL.of (by rw [← bools_rep r e]; exact h1), q I H _ (Step.refl w) (.bl _)⟩
/-- the greatest, the least of some -/
def maxI : List Int → Int
  | [] => 0
  | i :: l => l.foldl (fun m j => if j > m then j else m) i
def minI : List Int → Int
  | [] => 0
  | i :: l => l.foldl (fun m j => if j < m then j else m) i
theorem foldmax (l : List Int) : ∀ i, (l.foldl (fun m j => if j > m then j else m) i ∈ i :: l) ∧ ∀ y ∈ i :: l, y ≤ l.foldl (fun m j => if j > m then j else m) i := by
  induction l with
  | nil => intro i; exact ⟨List.mem_cons_self, fun y hy => by
    rcases List.mem_cons.mp hy with rfl | hy
    · exact Int.le_refl _
    · cases hy⟩
  | cons a l ih =>
    intro i
    simp only [List.foldl_cons]
    by_cases c : a > i
    · rw [if_pos c]
      obtain ⟨h1, h2⟩ := ih a
      refine ⟨List.mem_cons_of_mem _ h1, fun y hy => ?_⟩
      rcases List.mem_cons.mp hy with rfl | hy
      · have := h2 a List.mem_cons_self; omega
      · exact h2 y hy
    · rw [if_neg c]
      obtain ⟨h1, h2⟩ := ih i
      refine ⟨?_, fun y hy => ?_⟩
      · rcases List.mem_cons.mp h1 with e | h
        · rw [e]; exact List.mem_cons_self
        · exact List.mem_cons_of_mem _ (List.mem_cons_of_mem _ h)
      · rcases List.mem_cons.mp hy with rfl | hy
        · exact h2 _ List.mem_cons_self
        · rcases List.mem_cons.mp hy with rfl | hy
          · have := h2 i List.mem_cons_self; omega
          · exact h2 y (List.mem_cons_of_mem _ hy)
theorem foldmin (l : List Int) : ∀ i, (l.foldl (fun m j => if j < m then j else m) i ∈ i :: l) ∧ ∀ y ∈ i :: l, l.foldl (fun m j => if j < m then j else m) i ≤ y := by
  induction l with
  | nil => intro i; exact ⟨List.mem_cons_self, fun y hy => by
    rcases List.mem_cons.mp hy with rfl | hy
    · exact Int.le_refl _
    · cases hy⟩
  | cons a l ih =>
    intro i
    simp only [List.foldl_cons]
    by_cases c : a < i
    · rw [if_pos c]
      obtain ⟨h1, h2⟩ := ih a
      refine ⟨List.mem_cons_of_mem _ h1, fun y hy => ?_⟩
      rcases List.mem_cons.mp hy with rfl | hy
      · have := h2 a List.mem_cons_self; omega
      · exact h2 y hy
    · rw [if_neg c]
      obtain ⟨h1, h2⟩ := ih i
      refine ⟨?_, fun y hy => ?_⟩
      · rcases List.mem_cons.mp h1 with e | h
        · rw [e]; exact List.mem_cons_self
        · exact List.mem_cons_of_mem _ (List.mem_cons_of_mem _ h)
      · rcases List.mem_cons.mp hy with rfl | hy
        · exact h2 _ List.mem_cons_self
        · rcases List.mem_cons.mp hy with rfl | hy
          · have := h2 i List.mem_cons_self; omega
          · exact h2 y (List.mem_cons_of_mem _ hy)
def bMax : List D → Option D
  | [.lst xs] => (match intsD xs with | some (i :: l) => some (.int (maxI (i :: l))) | _ => none)
  | [.int i, .int j] => some (.int (if j > i then j else i))
  | _ => none
def bMin : List D → Option D
  | [.lst xs] => (match intsD xs with | some (i :: l) => some (.int (minI (i :: l))) | _ => none)
  | [.int i, .int j] => some (.int (if j < i then j else i))
  | _ => none
theorem bMax_ok : RDA G (fun xs H Q => rMax G.K xs H Q ∨ ∃ i j, xs = [.int i, .int j] ∧ Q (.int (if j > i then j else i)) H) bMax := by
  intro I H k vs ds z Q w hv hz q
  match ds, hv, hz with
  | [.lst xs], hv, hz =>
    simp only [bMax] at hz
    split at hz
    · rename_i i l e
      cases hz
      obtain ⟨v, rfl, h⟩ := paired1 hv
      obtain ⟨a, us, rfl, h1, r⟩ := h.lst w.inH
      refine .inl ⟨a, i :: l, rfl, SqL.of (by rw [← ints_rep r e]; exact h1), Nat.succ_pos _, fun m hm hle => ?_⟩
      obtain ⟨g1, g2⟩ := foldmax l i
      have e2 : m = maxI (i :: l) := Int.le_antisymm (g2 m hm) (hle _ g1)
      rw [e2]
      exact q I H _ (Step.refl w) (.int _)
    · cases hz
  | [.int i, .int j], hv, hz =>
    simp only [bMax] at hz; cases hz
    obtain ⟨v, u, rfl, h1, h2⟩ := paired2 hv
    cases h1.int; cases h2.int
    exact .inr ⟨i, j, rfl, q I H _ (Step.refl w) (.int _)⟩
theorem bMin_ok : RDA G (fun xs H Q => rMin G.K xs H Q ∨ ∃ i j, xs = [.int i, .int j] ∧ Q (.int (if j < i then j else i)) H) bMin := by
  intro I H k vs ds z Q w hv hz q
  match ds, hv, hz with
  | [.lst xs], hv, hz =>
    simp only [bMin] at hz
    split at hz
    · rename_i i l e
      cases hz
      obtain ⟨v, rfl, h⟩ := paired1 hv
      obtain ⟨a, us, rfl, h1, r⟩ := h.lst w.inH
      refine .inl ⟨a, i :: l, rfl, SqL.of (by rw [← ints_rep r e]; exact h1), Nat.succ_pos _, fun m hm hle => ?_⟩
      obtain ⟨g1, g2⟩ := foldmin l i
      have e2 : m = minI (i :: l) := Int.le_antisymm (hle _ g1) (g2 m hm)
      rw [e2]
      exact q I H _ (Step.refl w) (.int _)
    · cases hz
  | [.int i, .int j], hv, hz =>
    simp only [bMin] at hz; cases hz
    obtain ⟨v, u, rfl, h1, h2⟩ := paired2 hv
    cases h1.int; cases h2.int
    exact .inr ⟨i, j, rfl, q I H _ (Step.refl w) (.int _)⟩

-- ### comparisons 
def cLt : D → D → Option Bool
  | .int i, .int j => some (decide (i < j))
  | _, _ => none
def cLe : D → D → Option Bool
  | .int i, .int j => some (decide (i ≤ j))
  | _, _ => none
def cGt : D → D → Option Bool
  | .int i, .int j => some (decide (j < i))
  | _, _ => none
def cGe : D → D → Option Bool
  | .int i, .int j => some (decide (j ≤ i))
  | _, _ => none
theorem rd_lt : RDB G (rI0 fun i j => .bl (decide (i < j))) cLt := by
  intro I H k x y d e z Q w hx hy hz q
  cases d <;> cases e <;> simp only [cLt, Option.map] at hz <;> cases hz
  cases hx.int; cases hy.int
  exact ⟨_, _, rfl, rfl, q I H _ (Step.refl w) (.bl _)⟩
theorem rd_le : RDB G (rI0 fun i j => .bl (decide (i ≤ j))) cLe := by
  intro I H k x y d e z Q w hx hy hz q
  cases d <;> cases e <;> simp only [cLe, Option.map] at hz <;> cases hz
  cases hx.int; cases hy.int
  exact ⟨_, _, rfl, rfl, q I H _ (Step.refl w) (.bl _)⟩
theorem rd_gt : RDB G (rI0 fun i j => .bl (decide (j < i))) cGt := by
  intro I H k x y d e z Q w hx hy hz q
  cases d <;> cases e <;> simp only [cGt, Option.map] at hz <;> cases hz
  cases hx.int; cases hy.int
  exact ⟨_, _, rfl, rfl, q I H _ (Step.refl w) (.bl _)⟩
theorem rd_ge : RDB G (rI0 fun i j => .bl (decide (j ≤ i))) cGe := by
  intro I H k x y d e z Q w hx hy hz q
  cases d <;> cases e <;> simp only [cGe, Option.map] at hz <;> cases hz
  cases hx.int; cases hy.int
  exact ⟨_, _, rfl, rfl, q I H _ (Step.refl w) (.bl _)⟩
mutual
def D.py : D → Option PyData
  | .non => some .none
  | .bl b => some (.bool b)
  | .int i => some (.int i)
  | .str x => some (.str x)
  | .tup xs => (D.pys xs).map .tuple
  | .lst xs => (D.pys xs).map .list
  | .ins _ _ => none
  | .dK _ => none
  | .dT _ => none
  | .scr => none
  | .drw => none
def D.pys : List D → Option (List PyData)
  | [] => some []
  | d :: ds => (match d.py, D.pys ds with
    | some p, some ps => some (p :: ps)
    | _, _ => none)
end
mutual
theorem py_rep {I H : Hp} (w : Sub I H) : ∀ {v : V} {d : D} {p : PyData}, Rep G I v d → d.py = some p → Dp G.K H v p
  | _, _, _, .non, e => by simp only [D.py] at e; cases e; exact .non
  | _, _, _, .bl b, e => by simp only [D.py] at e; cases e; exact .bl b
  | _, _, _, .int i, e => by simp only [D.py] at e; cases e; exact .int i
  | _, _, _, .str x, e => by simp only [D.py] at e; cases e; exact .str x
  | _, _, _, .tup (ds := ds) h r, e => by
    simp only [D.py] at e
    cases q : D.pys ds with
    | none => rw [q] at e; cases e
    | some ps => rw [q] at e; cases e; exact .tup (sqT_sub w h) (pys_rep w r q)
  | _, _, _, .lst (ds := ds) h r, e => by
    simp only [D.py] at e
    cases q : D.pys ds with
    | none => rw [q] at e; cases e
    | some ps => rw [q] at e; cases e; exact .lst (SqL.of (w _ _ h)) (pys_rep w r q)
  | _, _, _, .ins _ _ _ _, e => by simp only [D.py] at e; cases e
  | _, _, _, .dK _ _ _, e => by simp only [D.py] at e; cases e
  | _, _, _, .dT _ _ _, e => by simp only [D.py] at e; cases e
  | _, _, _, .scr, e => by simp only [D.py] at e; cases e
  | _, _, _, .drw _, e => by simp only [D.py] at e; cases e
theorem pys_rep {I H : Hp} (w : Sub I H) : ∀ {vs : List V} {ds : List D} {ps : List PyData}, RepL G I vs ds → D.pys ds = some ps → DpAll G.K H vs ps
  | _, _, _, .nil, e => by simp only [D.pys] at e; cases e; exact .nil
  | _, _, _, .cons (d := d) (ds := ds) h t, e => by
    simp only [D.pys] at e
    cases q : d.py with
    | none => rw [q] at e; cases e
    | some p =>
      cases q2 : D.pys ds with
      | none => rw [q, q2] at e; cases e
      | some ps => rw [q, q2] at e; cases e; exact .cons (py_rep w h q) (pys_rep w t q2)
end
theorem pyB {I H : Hp} {v : V} {d : D} {p : PyData} (w : Sub I H) (h : RepB G I H v d) (e : d.py = some p) : Dp G.K H v p := by
  rcases h with h | ⟨a, rfl, h, _⟩
  · exact py_rep w h e
  · cases d <;> try exact False.elim h
    · obtain ⟨vs, h, r⟩ := h
      rename_i ds
      simp only [D.py] at e
      cases q : D.pys ds with
      | none => rw [q] at e; cases e
      | some ps => rw [q] at e; cases e; exact .lst (SqL.of h) (pys_rep w r q)
    · simp only [D.py] at e; cases e
    · simp only [D.py] at e; cases e
def cEqP (x y : D) : Option Bool := match x.py, y.py with
  | some p, some q => if SeqAt.shaped p && SeqAt.shaped q then some (PyData.eqv p q) else none
  | _, _ => none
def cNeP (x y : D) : Option Bool := (cEqP x y).map (!·)
theorem cEqP_some {x y : D} {b : Bool} (h : cEqP x y = some b) : ∃ p q, x.py = some p ∧ y.py = some q ∧ SeqAt.shaped p = true ∧ SeqAt.shaped q = true ∧ b = PyData.eqv p q := by
  unfold cEqP at h
  split at h
  · rename_i p q e1 e2
    by_cases c : (SeqAt.shaped p && SeqAt.shaped q) = true
    · rw [if_pos c] at h; cases h
      obtain ⟨c1, c2⟩ := Bool.and_eq_true_iff.mp c
      exact ⟨p, q, e1, e2, c1, c2, rfl⟩
    · rw [if_neg c] at h; cases h
  · cases h
theorem rd_eqP : RDB G (rEqD G.K) cEqP := by
  intro I H k x y d e z Q w hx hy hz q
  cases c : cEqP d e with
  | none => simp only [c, Option.map] at hz; cases hz
  | some b =>
    simp only [c, Option.map] at hz; cases hz
    obtain ⟨p, p', e1, e2, s1, s2, rfl⟩ := cEqP_some c
    exact ⟨p, p', pyB w.inH hx e1, pyB w.inH hy e2, s1, s2, q I H _ (Step.refl w) (.bl _)⟩
theorem rd_neP : RDB G (rNeD G.K) cNeP := by
  intro I H k x y d e z Q w hx hy hz q
  cases c : cEqP d e with
  | none => simp only [cNeP, c, Option.map] at hz; cases hz
  | some b =>
    simp only [cNeP, c, Option.map] at hz; cases hz
    obtain ⟨p, p', e1, e2, s1, s2, rfl⟩ := cEqP_some c
    exact ⟨p, p', pyB w.inH hx e1, pyB w.inH hy e2, s1, s2, q I H _ (Step.refl w) (.bl _)⟩
end
end Sky

end
section
-- SkyF: targets, what is walked, comprehensions, by data. 
namespace Sky
open PySem PySem.Spec PyProof.Rows L2

-- ### slots stored, forgotten 
section
variable {G : Gh} {I0 H0 I H : Hp} {k : Nat} {σ : List (Option V)} {ρ : Env}
theorem set_get {α : Type} {l : List α} {i j : Nat} {a b : α} (h : (l.set i a)[j]? = some b) : (j = i ∧ b = a) ∨ (j ≠ i ∧ l[j]? = some b) := by
  by_cases e : i = j
  · subst e
    by_cases q : i < l.length
    · rw [List.getElem?_set_self q] at h; cases h; exact .inl ⟨rfl, rfl⟩
    · rw [List.getElem?_eq_none (by simpa using q)] at h; cases h
  · rw [List.getElem?_set_ne e] at h; exact .inr ⟨Ne.symm e, h⟩
theorem FI.set (F : FI G I0 H0 I H k σ ρ) {v : V} {d : D} (i : Nat) (r : Rep G I v d) : FI G I0 H0 I H k (σ.set i (some v)) (ρ.set i (.val d)) where
  st := F.st
  len := by simpa using F.len
  val := fun j e h => by
    rcases set_get h with ⟨rfl, e1⟩ | ⟨ne, h⟩
    · cases e1
      have q : j < ρ.length := by
        have := (List.getElem?_eq_some_iff.mp h).1
        simpa using this
      exact ⟨v, by rw [List.getElem?_set_self (by rw [F.len]; exact q)], r⟩
    · obtain ⟨u, h1, h2⟩ := F.val j e h
      exact ⟨u, by rw [List.getElem?_set_ne (Ne.symm ne)]; exact h1, h2⟩
  own := fun j e h => by
    rcases set_get h with ⟨rfl, e1⟩ | ⟨ne, h⟩
    · cases e1
    · obtain ⟨a, h1, h2⟩ := F.own j e h
      exact ⟨a, by rw [List.getElem?_set_ne (Ne.symm ne)]; exact h1, h2⟩
  dis := fun j l d1 d2 a h1 h2 h3 h4 => by
    rcases set_get h1 with ⟨rfl, h⟩ | ⟨ne, h1⟩
    · cases h
    · rcases set_get h2 with ⟨rfl, h⟩ | ⟨ne2, h2⟩
      · cases h
      · rw [List.getElem?_set_ne (Ne.symm ne)] at h3
        rw [List.getElem?_set_ne (Ne.symm ne2)] at h4
        exact F.dis j l d1 d2 a h1 h2 h3 h4
  me := fun j c ds h => by
    rcases set_get h with ⟨rfl, e1⟩ | ⟨ne, h⟩
    · cases e1
    · obtain ⟨x, dx, C, vs, h1, h2, h3⟩ := F.me j c ds h
      exact ⟨x, dx, C, vs, h1, by rw [List.getElem?_set_ne (Ne.symm ne)]; exact h2, h3⟩
  one := fun j l c e ds es h1 h2 => by
    rcases set_get h1 with ⟨rfl, h⟩ | ⟨ne, h1⟩
    · cases h
    · rcases set_get h2 with ⟨rfl, h⟩ | ⟨ne2, h2⟩
      · cases h
      · exact F.one j l c e ds es h1 h2
def wipeE (ρ : Env) : List Nat → Env
  | [] => ρ
  | v :: vs => (wipeE ρ vs).set v .no
theorem FI.wipe1 (F : FI G I0 H0 I H k σ ρ) (i : Nat) : FI G I0 H0 I H k (σ.set i none) (ρ.set i .no) where
  st := F.st
  len := by simpa using F.len
  val := fun j e h => by
    rcases set_get h with ⟨rfl, e1⟩ | ⟨ne, h⟩
    · cases e1
    · obtain ⟨u, h1, h2⟩ := F.val j e h
      exact ⟨u, by rw [List.getElem?_set_ne (Ne.symm ne)]; exact h1, h2⟩
  own := fun j e h => by
    rcases set_get h with ⟨rfl, e1⟩ | ⟨ne, h⟩
    · cases e1
    · obtain ⟨a, h1, h2⟩ := F.own j e h
      exact ⟨a, by rw [List.getElem?_set_ne (Ne.symm ne)]; exact h1, h2⟩
  dis := fun j l d1 d2 a h1 h2 h3 h4 => by
    rcases set_get h1 with ⟨rfl, h⟩ | ⟨ne, h1⟩
    · cases h
    · rcases set_get h2 with ⟨rfl, h⟩ | ⟨ne2, h2⟩
      · cases h
      · rw [List.getElem?_set_ne (Ne.symm ne)] at h3
        rw [List.getElem?_set_ne (Ne.symm ne2)] at h4
        exact F.dis j l d1 d2 a h1 h2 h3 h4
  me := fun j c ds h => by
    rcases set_get h with ⟨rfl, e1⟩ | ⟨ne, h⟩
    · cases e1
    · obtain ⟨x, dx, C, vs, h1, h2, h3⟩ := F.me j c ds h
      exact ⟨x, dx, C, vs, h1, by rw [List.getElem?_set_ne (Ne.symm ne)]; exact h2, h3⟩
  one := fun j l c e ds es h1 h2 => by
    rcases set_get h1 with ⟨rfl, h⟩ | ⟨ne, h1⟩
    · cases h
    · rcases set_get h2 with ⟨rfl, h⟩ | ⟨ne2, h2⟩
      · cases h
      · exact F.one j l c e ds es h1 h2
theorem FI.wipe (F : FI G I0 H0 I H k σ ρ) : ∀ vs : List Nat, FI G I0 H0 I H k (L2.wipe σ vs) (wipeE ρ vs)
  | [] => F
  | v :: vs => (FI.wipe F vs).wipe1 v
end

-- ### targets 
structure Tg where
  put : D → Env → Option Env
  slots : List Nat
structure Tgs where
  put : List D → Env → Option Env
  slots : List Nat
def tgName (i : Nat) : Tg := ⟨fun d ρ => some (ρ.set i (.val d)), [i]⟩
def tgsNil : Tgs := ⟨fun ds ρ => match ds with | [] => some ρ | _ => none, []⟩
def tgsCons (t : Tg) (u : Tgs) : Tgs := ⟨fun ds ρ => match ds with
  | d :: ds => (match t.put d ρ with | some ρ' => u.put ds ρ' | none => none)
  | [] => none, t.slots ++ u.slots⟩
def tgTup (n : Nat) (t : Tgs) : Tg := ⟨fun d ρ => match d with
  | .tup ds => (match Nat.beq ds.length n with | true => t.put ds ρ | false => none)
  | _ => none, t.slots⟩
/-- only these slots were stored -/
def Off (ss : List Nat) (σ σ' : List (Option V)) : Prop := σ'.length = σ.length ∧ ∀ j, j ∉ ss → σ'[j]? = σ[j]?
def tDG (G : Gh) (t : Tg) : TG := fun v σ H Q => ∃ I0 H0 I k ρ d ρ', FI G I0 H0 I H k σ ρ ∧ Rep G I v d ∧ t.put d ρ = some ρ' ∧ ∀ σ', FI G I0 H0 I H k σ' ρ' → Off t.slots σ σ' → Q σ' H
def tDGs (G : Gh) (t : Tgs) : TGs := fun vs σ H Q => ∃ I0 H0 I k ρ ds ρ', FI G I0 H0 I H k σ ρ ∧ RepL G I vs ds ∧ t.put ds ρ = some ρ' ∧ ∀ σ', FI G I0 H0 I H k σ' ρ' → Off t.slots σ σ' → Q σ' H
theorem _root_.L2.PG.mono {X : Cx} {e : Expr} {t t' : TG} (h : PG X e t) (w : ∀ v σ H Q, t' v σ H Q → t v σ H Q) : PG X e t' := ⟨fun pins s σ H v u Q I r q => h.run pins s σ H v u Q I r (w v σ H Q q)⟩
theorem _root_.L2.PGs.mono {X : Cx} {e : List Expr} {t t' : TGs} (h : PGs X e t) (w : ∀ v σ H Q, t' v σ H Q → t v σ H Q) : PGs X e t' := ⟨fun pins s σ H v u Q I r q => h.run pins s σ H v u Q I r (w v σ H Q q)⟩
theorem _root_.L2.PI.mono {X : Cx} {g e : Expr} {t t' : TI} (h : PI X g e t) (w : ∀ σ H Q, t' σ H Q → t σ H Q) : PI X g e t' := ⟨fun pins s σ H Q I q => h.run pins s σ H Q I (w σ H Q q)⟩
abbrev DG (G : Gh) (X : Cx) (e : Expr) (t : Tg) : Prop := PG X e (tDG G t)
abbrev DGs (G : Gh) (X : Cx) (e : List Expr) (t : Tgs) : Prop := PGs X e (tDGs G t)
section
variable {G : Gh} {X : Cx} {pos : Pos}
theorem dg_name {e : Expr} {i : Nat} (h : PG X e (gName i)) : DG G X e (tgName i) := PG.mono h fun v σ H Q hq => by
  obtain ⟨I0, H0, I, k, ρ, d, ρ', F, r, e, q⟩ := hq
  cases e
  exact q _ (F.set i r) ⟨List.length_set, fun j hj => List.getElem?_set_ne (fun e => hj (by rw [← e]; exact List.mem_singleton_self _))⟩
theorem dgs_nil : DGs G X [] tgsNil := PGs.mono pgs_nil fun v σ H Q hq => by
  obtain ⟨I0, H0, I, k, ρ, d, ρ', F, r, e, q⟩ := hq
  cases d with
  | nil => cases e; cases r; exact ⟨rfl, q _ F ⟨rfl, fun _ _ => rfl⟩⟩
  | cons _ _ => cases e
theorem dgs_cons {e : Expr} {es : List Expr} {t : Tg} {u : Tgs} (h1 : DG G X e t) (h2 : DGs G X es u) (hs : (assignEach (e :: es) X.env).map (·.2) = assign e X.env :: (assignEach es X.env).map (·.2)) : DGs G X (e :: es) (tgsCons t u) :=
  PGs.mono (pgs_cons h1 h2 hs) fun v σ H Q hq => by
    obtain ⟨I0, H0, I, k, ρ, d, ρ', F, r, e, q⟩ := hq
    cases r with
    | nil => cases e
    | cons r rr =>
      rename_i v d vs ds
      simp only [tgsCons] at e
      cases c : t.put d ρ with
      | none => rw [c] at e; cases e
      | some ρ1 =>
        rw [c] at e
        exact ⟨v, vs, rfl, I0, H0, I, k, ρ, d, ρ1, F, r, c, fun σ1 F1 o1 => ⟨I0, H0, I, k, ρ1, ds, ρ', F1, rr, e, fun σ2 F2 o2 => q σ2 F2 ⟨o2.1.trans o1.1, fun j hj =>
          (o2.2 j fun z => hj (List.mem_append_right _ z)).trans (o1.2 j fun z => hj (List.mem_append_left _ z))⟩⟩⟩
theorem dg_tup {es : List Expr} {x : Nat} {t : Tgs} {n : Nat} (hK : X.K = G.K) (hc : X.calm = true) (h : DGs G X es t) (hn : (assignEach es X.env).length = n) (hst : (assignEach es X.env).findIdx? (·.1) = none) : DG G X (.Tuple es x pos) (tgTup n t) :=
  PG.mono (pg_tup hc h hn hst) fun v σ H Q hq => by
    obtain ⟨I0, H0, I, k, ρ, d, ρ', F, r, e, q⟩ := hq
    cases r <;> simp only [tgTup] at e <;> try cases e
    rename_i a vs ds h r
    cases c : Nat.beq ds.length n with
    | false => rw [c] at e; cases e
    | true =>
      rw [c] at e
      rw [hK]
      exact ⟨a, vs, rfl, sqT_sub F.w.inH h, by rw [r.length]; exact Nat.eq_of_beq_eq_true c, I0, H0, I, k, ρ, ds, ρ', F, r, e, q⟩
end

-- ### what is walked 
/-- J walks these data while I stands -/
abbrev Yld (G : Gh) (I : Hp) (J : It) (ds : List D) : Prop := Walk J ds.length (fun H => ∃ I1 k1, Sub I I1 ∧ WOk G I1 H k1) (fun i H x H' => ∀ I1 k1, Sub I I1 → WOk G I1 H k1 → ∃ I2 d, Step G I1 H I2 H' k1 ∧ ds[i]? = some d ∧ Rep G I2 x d)
def tDI (G : Gh) (f : SemL) : TI := fun σ H R => ∃ I0 H0 I k ρ ds k', FI G I0 H0 I H k σ ρ ∧ f ρ k = some (ds, k') ∧ ∀ I' H' J, Step G I H I' H' k' → Yld G I' J ds → R J H'
abbrev DI (G : Gh) (X : Cx) (tg e : Expr) (f : SemL) : Prop := PI X tg e (tDI G f)
theorem rep_at {G : Gh} {I : Hp} {vs : List V} {ds : List D} {i : Nat} {v : V} (r : RepL G I vs ds) (h : vs[i]? = some v) : ∃ d, ds[i]? = some d ∧ Rep G I v d := r.getV h
theorem yld_list {G : Gh} {I : Hp} {a : Addr} {vs : List V} {ds : List D} (h : I a = some (.lst vs)) (r : RepL G I vs ds) : Yld G I (Itl G.K a) ds := by
  have w := walk_list (K := G.K) (a := a) (xs := vs)
  rw [r.length] at w
  refine w.mono (fun H ⟨I1, k1, s, wk⟩ => SqL.of (wk.inH _ _ (s _ _ h))) fun i H x H' hi _ ⟨e1, e2⟩ I1 k1 s wk => ?_
  obtain ⟨d, h1, h2⟩ := rep_at r e2
  subst e1
  exact ⟨I1, d, Step.refl wk, h1, h2.sub s⟩
theorem yld_tup {G : Gh} {I : Hp} {a : Addr} {vs : List V} {ds : List D} (h : SqT G.K I a vs) (r : RepL G I vs ds) : Yld G I (Itt G.K a) ds := by
  have w := walk_tup (K := G.K) (a := a) (xs := vs)
  rw [r.length] at w
  refine w.mono (fun H ⟨I1, k1, s, wk⟩ => sqT_sub wk.inH (sqT_sub s h)) fun i H x H' hi _ ⟨e1, e2⟩ I1 k1 s wk => ?_
  obtain ⟨d, h1, h2⟩ := rep_at r e2
  subst e1
  exact ⟨I1, d, Step.refl wk, h1, h2.sub s⟩
/-- the items of a list or tuple -/
def D.items : D → Option (List D)
  | .tup xs => some xs
  | .lst xs => some xs
  | _ => none
def dItems (f : Sem) : SemL := fun ρ => M.bind (f ρ) fun x => M.lift x.items
section
variable {G : Gh} {X : Cx} {tg e : Expr} {p pos : Pos}
theorem di_seq {f : Sem} (hK : X.K = G.K) (he : DE G X e f) : DI G X tg e (dItems f) := by
  refine ⟨fun pins s σ H R J hq => ?_⟩
  obtain ⟨I0, H0, I, k, ρ, ds, k', F, e1, q⟩ := hq
  obtain ⟨x, k1, e2, e3⟩ := M.bind_some e1
  obtain ⟨e4, rfl⟩ := M.lift_some e3
  cases x <;> simp only [D.items] at e4 <;> cases e4
  · refine (pi_tup (tg := tg) he).run pins s σ H R J ⟨I0, H0, I, k, ρ, _, _, F, e2, fun I1 H1 v s1 r1 => ?_⟩
    cases r1 with
    | @tup a vs _ h r =>
      rw [hK]
      exact ⟨a, rfl, ⟨vs, sqT_sub s1.w.inH h⟩, q I1 H1 _ s1 (yld_tup h r)⟩
  · refine (pi_list (tg := tg) he).run pins s σ H R J ⟨I0, H0, I, k, ρ, _, _, F, e2, fun I1 H1 v s1 r1 => ?_⟩
    cases r1 with
    | @lst a vs _ h r =>
      rw [hK]
      exact ⟨a, rfl, ⟨vs, SqL.of (s1.w.inH _ _ h)⟩, q I1 H1 _ s1 (yld_list h r)⟩
/-- range(n), range(a, b) -/
def rangeD (lo : Int) (n : Nat) : List D := (List.range n).map fun i : Nat => .int (lo + i)
theorem yld_range {I : Hp} (lo : Int) (n : Nat) : Yld G I (Itr lo n) (rangeD lo n) := by
  have w := walk_range (lo := lo) (n := n)
  have hl : (rangeD lo n).length = n := by unfold rangeD; rw [List.length_map, List.length_range]
  rw [← hl] at w
  rw [hl] at w
  show Walk (Itr lo n) (rangeD lo n).length _ _
  rw [hl]
  refine w.mono (fun H _ => trivial) fun i H x H' hi _ ⟨e1, e2⟩ I1 k1 s wk => ?_
  subst e1 e2
  refine ⟨I1, .int (lo + (i : Nat)), Step.refl wk, ?_, .int _⟩
  unfold rangeD
  rw [List.getElem?_map, List.getElem?_range hi]
  rfl
def okR (i : Int) : Bool := decide (-(2 ^ 62) ≤ i) && decide (i < 2 ^ 62)
theorem okR_ok {i : Int} (h : okR i = true) : -(2 ^ 62) ≤ i ∧ i < 2 ^ 62 := by
  have := Bool.and_eq_true_iff.mp h
  exact ⟨of_decide_eq_true this.1, of_decide_eq_true this.2⟩
def rng : List D → Option (List D)
  | [.int j] => if okR j then some (rangeD 0 j.toNat) else none
  | [.int i, .int j] => if okR i && okR j then some (rangeD i (j - i).toNat) else none
  | _ => none
def dRng (f : SemL) : SemL := fun ρ => M.bind (f ρ) fun xs => M.lift (rng xs)
theorem di_range1 {a : Expr} {f : Sem} (hg : Gl X "range") (hm : X.mg "range" = none) (ha : DE G X a f) (hs : starEach [a] X.env = [(false, eval a X.env)]) : DI G X tg (.Call (.Name "range" p) [a] [] pos) (dRng (dCons f dNil)) :=
  PI.mono (pi_range1 hg hm (da_cons ha da_nil (by rw [hs]; rfl)) hs) fun σ H R hq => by
    obtain ⟨I0, H0, I, k, ρ, ds, k', F, e1, q⟩ := hq
    obtain ⟨x, k1, e2, e3⟩ := M.bind_some e1
    obtain ⟨e4, rfl⟩ := M.lift_some e3
    obtain ⟨y, k2, e5, e6⟩ := M.bind_some e2
    obtain ⟨z, k3, e7, e8⟩ := M.bind_some e6
    obtain ⟨rfl, rfl⟩ := M.pure_some e8
    cases e7
    refine ⟨I0, H0, I, k, ρ, [y], _, F, e2, fun I1 H1 vs s1 r1 => ?_⟩
    cases y <;> simp only [rng] at e4 <;> try cases e4
    rename_i j
    by_cases c : okR j = true
    · rw [if_pos c] at e4; cases e4
      cases r1 with
      | cons r rr =>
        cases rr
        cases r
        exact ⟨j, rfl, (okR_ok c).1, (okR_ok c).2, q I1 H1 _ s1 (yld_range 0 _)⟩
    · rw [if_neg c] at e4; cases e4
theorem di_range2 {a b : Expr} {f g : Sem} (hg : Gl X "range") (hm : X.mg "range" = none) (ha : DE G X a f) (hb : DE G X b g) (hs : starEach [a, b] X.env = [(false, eval a X.env), (false, eval b X.env)]) (hs2 : starEach [b] X.env = [(false, eval b X.env)]) :
    DI G X tg (.Call (.Name "range" p) [a, b] [] pos) (dRng (dCons f (dCons g dNil))) :=
  PI.mono (pi_range2 hg hm (da_cons ha (da_cons hb da_nil (by rw [hs2]; rfl)) (by rw [hs, hs2])) hs hs2) fun σ H R hq => by
    obtain ⟨I0, H0, I, k, ρ, ds, k', F, e1, q⟩ := hq
    obtain ⟨x, k1, e2, e3⟩ := M.bind_some e1
    obtain ⟨e4, rfl⟩ := M.lift_some e3
    obtain ⟨y, k2, e5, e6⟩ := M.bind_some e2
    obtain ⟨z, k3, e7, e8⟩ := M.bind_some e6
    obtain ⟨rfl, rfl⟩ := M.pure_some e8
    obtain ⟨y2, k4, e9, e10⟩ := M.bind_some e7
    obtain ⟨z2, k5, e11, e12⟩ := M.bind_some e10
    obtain ⟨rfl, rfl⟩ := M.pure_some e12
    cases e11
    refine ⟨I0, H0, I, k, ρ, [y, y2], _, F, e2, fun I1 H1 vs s1 r1 => ?_⟩
    cases y <;> cases y2 <;> simp only [rng] at e4 <;> try cases e4
    rename_i i j
    by_cases c : (okR i && okR j) = true
    · rw [if_pos c] at e4; cases e4
      obtain ⟨c1, c2⟩ := Bool.and_eq_true_iff.mp c
      cases r1 with
      | cons r rr =>
        cases rr with
        | cons r' rr =>
          cases rr
          cases r
          cases r'
          exact ⟨i, j, rfl, ⟨(okR_ok c1).1, (okR_ok c1).2, (okR_ok c2).1, (okR_ok c2).2⟩, q I1 H1 _ s1 (yld_range i _)⟩
    · rw [if_neg c] at e4; cases e4
end
end Sky

end
section
-- SkyG: zip, enumerate, comprehensions, by data. 
namespace Sky
open PySem PySem.Spec PyProof.Rows L2

-- ### pairs 
def pairD (x y : D) : D := .tup [x, y]
theorem yld_pair {G : Gh} {I : Hp} {J : It} {xs ys : List V} {ds es : List D} {n : Nat} (hn : n = min ds.length es.length) (rx : RepL G I xs ds) (ry : RepL G I ys es) {P : Hp → Prop}
    (w : Walk J n P (YPair (fun i => xs[i]?) (fun i => ys[i]?))) (hP : ∀ H I1 k1, Sub I I1 → WOk G I1 H k1 → P H) : Yld G I J (List.zipWith pairD ds es) := by
  have hl : (List.zipWith pairD ds es).length = n := by rw [List.length_zipWith, hn]
  show Walk J (List.zipWith pairD ds es).length _ _
  rw [hl]
  refine w.mono (fun H ⟨I1, k1, s, wk⟩ => hP H I1 k1 s wk) fun i H x H' hi _ ⟨T, a, b, e1, hT, e2, h1, h2⟩ I1 k1 s wk => ?_
  subst e1 e2
  obtain ⟨d, q1, r1⟩ := rx.getV h1
  obtain ⟨e, q2, r2⟩ := ry.getV h2
  obtain ⟨s2, rp⟩ := new_tup wk hT (.cons (r1.sub s) (.cons (r2.sub s) .nil))
  exact ⟨_, pairD d e, s2, by rw [List.getElem?_zipWith, q1, q2], rp⟩
theorem walk_zipT {K : PySem.W.Frag} {a b : Addr} {xs ys : List V} {n : Nat} (hn : n = min xs.length ys.length) : Walk (RZ.ItzT K a b) n (fun H => SqT K H a xs ∧ SqT K H b ys) (YPair (fun i => xs[i]?) (fun i => ys[i]?)) := by
  subst hn
  refine ⟨fun i _ hi q => ?_, fun _ q => ⟨xs, ys, q.1, q.2, by omega⟩, fun i H v H' _ q y => ?_⟩
  · have h1 : i < xs.length := by omega
    have h2 : i < ys.length := by omega
    exact ⟨xs, ys, xs[i], ys[i], q.1, q.2, by simp [h1], by simp [h2]⟩
  · obtain ⟨T, x, z, h1, h2, h3, h4, h5⟩ := y
    exact ⟨T, x, z, h1, h2, h3, h4 xs q.1, h5 ys q.2⟩
def zipD : List D → Option (List D)
  | [.tup xs, .tup ys] => some (List.zipWith pairD xs ys)
  | [.lst xs, .lst ys] => some (List.zipWith pairD xs ys)
  | _ => none
def dZip (f : SemL) : SemL := fun ρ => M.bind (f ρ) fun xs => M.lift (zipD xs)
def enumD (xs : List D) : List D := List.zipWith pairD (rangeD 0 xs.length) xs
def dEnum (f : Sem) : SemL := fun ρ => M.bind (f ρ) fun x => match x with
  | .lst xs => M.pure (enumD xs)
  | _ => M.fail
section
variable {G : Gh} {X : Cx} {e e2 : Expr} {p pos tpos : Pos} {elts : List Expr} {kk : Nat}
theorem di_zip {f : SemL} (hK : X.K = G.K) (hg : Gl X "zip") (hm : X.mg "zip" = none) (ha : DA G X [e, e2] f) (h : ∀ {ta : TA}, PA X [e, e2] ta → PI X (.Tuple elts kk tpos) (.Call (.Name "zip" p) [e, e2] [] pos) (RZ.iZipA X.K ta)) :
    DI G X (.Tuple elts kk tpos) (.Call (.Name "zip" p) [e, e2] [] pos) (dZip f) := PI.mono (h ha) fun σ H R hq => by
  obtain ⟨I0, H0, I, k, ρ, ds, k', F, e1, q⟩ := hq
  obtain ⟨x, k1, e2, e3⟩ := M.bind_some e1
  obtain ⟨e4, rfl⟩ := M.lift_some e3
  refine ⟨I0, H0, I, k, ρ, x, _, F, e2, fun I1 H1 vs s1 r1 => ?_⟩
  rw [hK]
  match x, r1, e4 with
  | [.tup xs, .tup ys], r1, e4 =>
    simp only [zipD] at e4; cases e4
    cases r1 with
    | cons h1 r1 =>
      cases r1 with
      | cons h2 r1 =>
        cases r1
        cases h1 with
        | @tup a vs _ h1 g1 =>
          cases h2 with
          | @tup b ws _ h2 g2 =>
            exact ⟨a, b, vs, ws, rfl, .inr ⟨sqT_sub s1.w.inH h1, sqT_sub s1.w.inH h2, q I1 H1 _ s1 (yld_pair rfl g1 g2 (walk_zipT (by rw [g1.length, g2.length])) fun H I2 k2 s w => ⟨sqT_sub w.inH (sqT_sub s h1), sqT_sub w.inH (sqT_sub s h2)⟩)⟩⟩
  | [.lst xs, .lst ys], r1, e4 =>
    simp only [zipD] at e4; cases e4
    cases r1 with
    | cons h1 r1 =>
      cases r1 with
      | cons h2 r1 =>
        cases r1
        cases h1 with
        | @lst a vs _ h1 g1 =>
          cases h2 with
          | @lst b ws _ h2 g2 =>
            exact ⟨a, b, vs, ws, rfl, .inl ⟨SqL.of (s1.w.inH _ _ h1), SqL.of (s1.w.inH _ _ h2), q I1 H1 _ s1 (yld_pair rfl g1 g2 (walk_zip (by rw [g1.length, g2.length])) fun H I2 k2 s w => ⟨SqL.of (w.inH _ _ (s _ _ h1)), SqL.of (w.inH _ _ (s _ _ h2))⟩)⟩⟩
theorem range_rep {I : Hp} (n : Nat) : ∀ lo : Int, RepL G I ((List.range n).map fun i : Nat => V.int (lo + i)) (rangeD lo n) := by
  intro lo
  unfold rangeD
  generalize List.range n = l
  induction l with
  | nil => exact .nil
  | cons a l ih => exact .cons (.int _) ih
theorem di_enum {f : Sem} (hK : X.K = G.K) (hg : Gl X "enumerate") (hm : X.mg "enumerate" = none) (ha : DE G X e f) (hs : starEach [e] X.env = [(false, eval e X.env)]) :
    DI G X (.Tuple elts kk tpos) (.Call (.Name "enumerate" p) [e] [] pos) (dEnum f) := PI.mono (pi_enum hg hm (da_cons ha da_nil (by rw [hs]; rfl)) hs) fun σ H R hq => by
  obtain ⟨I0, H0, I, k, ρ, ds, k', F, e1, q⟩ := hq
  obtain ⟨x, k1, e2, e3⟩ := M.bind_some e1
  cases x <;> try cases e3
  rename_i xs
  refine ⟨I0, H0, I, k, ρ, [.lst xs], k', F, by simp only [dCons, M.bind, e2, dNil, M.pure], fun I1 H1 vs s1 r1 => ?_⟩
  rw [hK]
  cases r1 with
  | cons h1 r1 =>
    cases r1
    cases h1 with
    | @lst a vs _ h1 g1 =>
      refine ⟨a, vs, rfl, SqL.of (s1.w.inH _ _ h1), q I1 H1 _ s1 (yld_pair (n := vs.length) (xs := (List.range xs.length).map fun i : Nat => V.int (0 + i)) (by unfold rangeD; rw [List.length_map, List.length_range, g1.length, Nat.min_self]) (range_rep _ 0) g1
        ((walk_enum (K := G.K) (a := a) (xs := vs)).mono (fun _ h => h) fun i H x H' hi _ ⟨T, u, z, e1, hT, e2, h1, h2⟩ => ⟨T, u, z, e1, hT, e2, ?_, h2⟩) fun H I2 k2 s w => SqL.of (w.inH _ _ (s _ _ h1)))⟩
      show ((List.range xs.length).map fun i : Nat => V.int (0 + i))[i]? = some u
      rw [List.getElem?_map, List.getElem?_range (by rw [← g1.length]; exact hi)]
      cases h1
      simp

-- ### comprehensions 
def lcLoop (t : Tg) (c : SemB) (f : Sem) (ρ : Env) : List D → M (List D)
  | [] => M.pure []
  | d :: ds => match t.put d ρ with
    | none => M.fail
    | some ρ' => M.bind (c ρ') fun b => match b with
      | true => M.bind (f ρ') fun x => M.bind (lcLoop t c f ρ ds) fun xs => M.pure (x :: xs)
      | false => lcLoop t c f ρ ds
def dLc (vs : List Nat) (it : SemL) (t : Tg) (c : SemB) (f : Sem) : Sem := fun ρ => M.bind (it ρ) fun ds => M.bind (lcLoop t c f (wipeE ρ vs) ds) fun xs => M.lift (if lim xs.length then some (.lst xs) else none)
def dTrue : SemB := fun _ k => some (true, k)
theorem Step.mut {I H I' H' : Hp} {k k' : Nat} {x : Addr} {o : HO} (w0 : WOk G I H k) (s : Step G I H I' H' k') (hx : H x = none) (hI : I' x = none) : Step G I H I' (upd H' x o) k' where
  w := ⟨fun a u e => by rw [upd_ne (fun z => by rw [z, hI] at e; cases e)]; exact s.w.inH a u e, by
    rcases w0.scr with ⟨ob, h⟩ | h
    · have ne := ne_of_none h hx
      have nd : G.da ≠ some G.sa := fun e => by have := (w0.drw _ e).2.2; rw [h] at this; cases this
      exact .inl ⟨ob, by rw [upd_ne ne]; exact s.same _ _ h nd⟩
    · exact .inr h, fun d hd' => by
      obtain ⟨h1, h2, h3⟩ := s.w.drw d hd'
      exact ⟨h1, h2, by rw [upd_ne (fun z => w0.ne hx (by rw [← z]; exact hd'))]; exact h3⟩⟩
  sub := s.sub
  new := s.new
  same := fun a u e q => by rw [upd_ne (ne_of_none e hx)]; exact s.same a u e q

theorem lcLoop_len {t : Tg} {c : SemB} {f : Sem} {ρ : Env} : ∀ {ds : List D} {k k' : Nat} {xs : List D}, lcLoop t c f ρ ds k = some (xs, k') → True := fun _ => trivial
theorem off_wipe {σ σ' : List (Option V)} {vs ss : List Nat} (h : ∀ i ∈ ss, i ∈ vs) (o : Off ss (L2.wipe σ vs) σ') : L2.wipe σ' vs = L2.wipe σ vs := by
  have wl : ∀ (τ : List (Option V)) (vs : List Nat) (j : Nat), (L2.wipe τ vs)[j]? = if j ∈ vs ∧ j < τ.length then some none else τ[j]? := by
    intro τ vs
    induction vs with
    | nil => intro j; simp [L2.wipe]
    | cons v vs ih =>
      intro j
      show ((L2.wipe τ vs).set v none)[j]? = _
      by_cases e : v = j
      · subst e
        by_cases q : v < τ.length
        · rw [List.getElem?_set_self (by rw [L2.wipe_length]; exact q)]
          simp [q]
        · rw [List.getElem?_eq_none (by rw [List.length_set, L2.wipe_length]; omega)]
          rw [if_neg (fun z => q z.2), List.getElem?_eq_none (by omega)]
      · rw [List.getElem?_set_ne e, ih j]
        simp [List.mem_cons, Ne.symm e]
  apply List.ext_getElem?
  intro j
  rw [wl, wl]
  have hl : σ'.length = σ.length := by rw [o.1, L2.wipe_length]
  rw [hl]
  by_cases hj : j ∈ vs ∧ j < σ.length
  · rw [if_pos hj, if_pos hj]
  · rw [if_neg hj, if_neg hj]
    by_cases q : j < σ.length
    · have hv : j ∉ vs := fun z => hj ⟨z, q⟩
      rw [o.2 j (fun z => hv (h j z)), wl, if_neg hj]
    · rw [List.getElem?_eq_none (by omega), List.getElem?_eq_none (by omega)]

/-- one turn of a comprehension's loop -/
theorem lcLoop_cons {t : Tg} {c : SemB} {f : Sem} {ρ : Env} {d : D} {ds : List D} {k k' : Nat} {xs : List D} (h : lcLoop t c f ρ (d :: ds) k = some (xs, k')) :
    ∃ ρ' b k1, t.put d ρ = some ρ' ∧ c ρ' k = some (b, k1) ∧ ((b = false ∧ lcLoop t c f ρ ds k1 = some (xs, k')) ∨ (b = true ∧ ∃ x k2 ys, f ρ' k1 = some (x, k2) ∧ lcLoop t c f ρ ds k2 = some (ys, k') ∧ xs = x :: ys)) := by
  simp only [lcLoop] at h
  cases e : t.put d ρ with
  | none => rw [e] at h; cases h
  | some ρ' =>
    rw [e] at h
    obtain ⟨b, k1, e1, h⟩ := M.bind_some h
    refine ⟨ρ', b, k1, rfl, e1, ?_⟩
    cases b with
    | false => exact .inl ⟨rfl, h⟩
    | true =>
      obtain ⟨x, k2, e2, h⟩ := M.bind_some h
      obtain ⟨ys, k3, e3, h⟩ := M.bind_some h
      obtain ⟨rfl, rfl⟩ := M.pure_some h
      exact .inr ⟨rfl, x, k2, ys, e2, e3, rfl⟩

theorem td_lc {vs : List Nat} {it : SemL} {t : Tg} {c : SemB} {f : Sem} {σ : List (Option V)} {H : Hp} {Q : VK} (hs : ∀ i ∈ t.slots, i ∈ vs) (hq : tD G (dLc vs it t c f) σ H Q) : tLc (tDI G it) (tDG G t) (tDB G c) (tD G f) vs σ H Q := by
  obtain ⟨I0, H0, I, k, ρ, d, k', F, e, q⟩ := hq
  obtain ⟨ds, k1, e1, e⟩ := M.bind_some e
  obtain ⟨xs, k2, e2, e⟩ := M.bind_some e
  obtain ⟨e3, rfl⟩ := M.lift_some e
  have hlim : lim xs.length = true := by
    by_cases z : lim xs.length = true
    · exact z
    · rw [if_neg z] at e3; cases e3
  rw [if_pos hlim] at e3
  cases e3
  refine ⟨I0, H0, I, k, ρ, ds, k1, F, e1, fun I1 H1 J s1 y Dn hD => ?_⟩
  have hwk := s1.w
  refine lc_it y (Pv := fun i H' => ∃ I2 k2 acc as rest, Step G I1 H1 I2 H' k2 ∧ I2 Dn = none ∧ H' Dn = some (.lst acc) ∧ RepL G I2 acc as ∧ lcLoop t c f (wipeE ρ vs) (ds.drop i) k2 = some (rest, k') ∧ as ++ rest = xs) ?_ ?_ ?_ ?_
  · refine ⟨I1, k1, [], [], xs, Step.mut hwk (Step.refl hwk) hD ?_, ?_, upd_same, .nil, e2, rfl⟩
    all_goals
      cases z : I1 Dn with
      | none => rfl
      | some u => have := hwk.inH _ _ z; rw [hD] at this; cases this
  · rintro i H' _ ⟨I2, k2, acc, as, rest, s2, _, _, _, _, _⟩
    exact ⟨I2, k2, s2.sub, s2.w⟩
  · rintro i x H' H2 hi ⟨I2, k2, acc, as, rest, s2, hID, hHD, ra, hl, hx⟩ hy
    obtain ⟨I3, d, s3, hd, rd⟩ := hy I2 k2 s2.sub s2.w
    have hdrop : ds.drop i = d :: ds.drop (i + 1) := by
      obtain ⟨h1, h2⟩ := List.getElem?_eq_some_iff.mp hd
      rw [← h2]; exact (List.drop_eq_getElem_cons h1)
    rw [hdrop] at hl
    obtain ⟨ρ', b, k3, p1, p2, p3⟩ := lcLoop_cons hl
    have dne : G.da ≠ some Dn := hwk.ne hD
    -- D's list through the steps
    have keepD : ∀ {I I' H H' : Hp} {k : Nat}, Step G I H I' H' k → I Dn = none → H Dn = some (.lst acc) → I' Dn = none ∧ H' Dn = some (.lst acc) := fun {I I' H H' k} s h1 h2 => by
      refine ⟨?_, s.same _ _ h2 dne⟩
      cases z : I' Dn with
      | none => rfl
      | some u =>
        rcases s.new _ _ z with w | w
        · rw [h1] at w; cases w
        · rw [h2] at w; cases w
    obtain ⟨hID3, hHD3⟩ := keepD s3 hID hHD
    refine ⟨I0, H0, I3, k2, wipeE ρ vs, d, ρ', (((F.step s1).step (s2.trans s3)).wipe vs), rd, p1, fun σ2 F2 o2 => ⟨off_wipe hs o2, ?_⟩⟩
    refine ⟨I0, H0, I3, k2, ρ', b, k3, F2, p2, fun I4 H4 s4 => ?_⟩
    obtain ⟨hID4, hHD4⟩ := keepD s4 hID3 hHD3
    rcases p3 with ⟨rfl, p3⟩ | ⟨rfl, z, k5, ys, p4, p5, p6⟩
    · refine iteF ⟨I4, k3, acc, as, rest, (s2.trans s3).trans s4, hID4, hHD4, (ra.sub s3.sub).sub s4.sub, p3, hx⟩
    · refine iteT ⟨I0, H0, I4, k3, ρ', z, k5, F2.step s4, p4, fun I5 H5 u s5 ru => ?_⟩
      obtain ⟨hID5, hHD5⟩ := keepD s5 hID4 hHD4
      refine ⟨acc, hHD5, ?_, I5, k5, acc ++ [u], as ++ [z], ys, ?_, hID5, upd_same, ?_, p5, by rw [← hx, p6]; simp⟩
      · have h1 := lim_lt hlim
        have h2 := ra.length
        have h3 : as.length ≤ xs.length := by rw [← hx, List.length_append]; omega
        omega
      · exact Step.mut hwk (((s2.trans s3).trans s4).trans s5) hD hID5
      · exact (((ra.sub s3.sub).sub s4.sub).sub s5.sub).append (.cons ru .nil)
  · rintro H' ⟨I2, k2, acc, as, rest, s2, hID, hHD, ra, hl, hx⟩
    rw [List.drop_length] at hl
    obtain ⟨rfl, rfl⟩ := M.pure_some hl
    rw [List.append_nil] at hx
    subst hx
    have s3 := Step.keep (o := .lst acc) s2 hD hID hHD (hwk.ne hD)
    exact q _ _ _ (s1.trans s3) (.lst upd_same (ra.sub fun a u e => by rw [upd_ne (fun z => by rw [z, hID] at e; cases e)]; exact e))
end
end Sky

end
section
-- SkyH: statements by data. 
namespace Sky
open PySem PySem.Spec PyProof.Rows L2

inductive Out where
  | nx (ρ : Env) | ret (d : D) | brk (ρ : Env) | cnt (ρ : Env)
abbrev SemS := Env → M Out
def EndOk (G : Gh) (I0 H0 I : Hp) (D : Ends) (k' : Nat) : Out → Prop
  | .nx ρ' => ∀ I' H' σ', FI G I0 H0 I' H' k' σ' ρ' → Sub I I' → D.nx σ' H'
  | .ret d => ∀ I' H' v, Step G I0 H0 I' H' k' → Rep G I' v d → D.rt v H'
  | .brk ρ' => ∀ I' H' σ', FI G I0 H0 I' H' k' σ' ρ' → Sub I I' → D.bk σ' H'
  | .cnt ρ' => ∀ I' H' σ', FI G I0 H0 I' H' k' σ' ρ' → Sub I I' → D.ct σ' H'
def tDS (G : Gh) (f : SemS) : TS := fun D σ H => ∃ I0 H0 I k ρ o k', FI G I0 H0 I H k σ ρ ∧ f ρ k = some (o, k') ∧ EndOk G I0 H0 I D k' o
abbrev DS (G : Gh) (X : Cx) (s : Stmt) (f : SemS) : Prop := PS X s (tDS G f)
abbrev DSs (G : Gh) (X : Cx) (s : List Stmt) (f : SemS) : Prop := PSs X s (tDS G f)
theorem EndOk.sub {G : Gh} {I0 H0 I I1 : Hp} {D : Ends} {k' : Nat} {o : Out} (s : Sub I I1) (h : EndOk G I0 H0 I D k' o) : EndOk G I0 H0 I1 D k' o := by
  cases o with
  | nx ρ => exact fun I' H' σ' F s' => h I' H' σ' F fun a o e => s' a o (s a o e)
  | ret d => exact h
  | brk ρ => exact fun I' H' σ' F s' => h I' H' σ' F fun a o e => s' a o (s a o e)
  | cnt ρ => exact fun I' H' σ' F s' => h I' H' σ' F fun a o e => s' a o (s a o e)

def sNext : SemS := fun ρ k => some (.nx ρ, k)
def sSeq (f g : SemS) : SemS := fun ρ => M.bind (f ρ) fun o => match o with
  | .nx ρ' => g ρ'
  | o => M.pure o
def sAsg (f : Sem) (t : Tg) : SemS := fun ρ => M.bind (f ρ) fun d => match t.put d ρ with
  | some ρ' => M.pure (.nx ρ')
  | none => M.fail
def sIf (c : SemB) (f g : SemS) : SemS := fun ρ => M.bind (c ρ) fun b => match b with | true => f ρ | false => g ρ
def sRet (f : Sem) : SemS := fun ρ => M.bind (f ρ) fun d => M.pure (.ret d)
def sRetN : SemS := fun _ k => some (.ret .non, k)
def sDrop (f : Sem) : SemS := fun ρ => M.bind (f ρ) fun _ => M.pure (.nx ρ)
def sFail : SemS := fun _ _ => none
def sBrk : SemS := fun ρ k => some (.brk ρ, k)
def sCnt : SemS := fun ρ k => some (.cnt ρ, k)
def forLoop (t : Tg) (b : SemS) : List D → Env → M Out
  | [], ρ => M.pure (.nx ρ)
  | d :: ds, ρ => match t.put d ρ with
    | none => M.fail
    | some ρ1 => M.bind (b ρ1) fun o => match o with
      | .nx ρ2 => forLoop t b ds ρ2
      | .cnt ρ2 => forLoop t b ds ρ2
      | .brk ρ2 => M.pure (.nx ρ2)
      | .ret d => M.pure (.ret d)
def sFor (it : SemL) (t : Tg) (b : SemS) : SemS := fun ρ => M.bind (it ρ) fun ds => forLoop t b ds ρ
def whLoop (c : SemB) (b : SemS) : Nat → Env → M Out
  | 0, _ => M.fail
  | n + 1, ρ => M.bind (c ρ) fun q => match q with
    | false => M.pure (.nx ρ)
    | true => M.bind (b ρ) fun o => match o with
      | .nx ρ2 => whLoop c b n ρ2
      | .cnt ρ2 => whLoop c b n ρ2
      | .brk ρ2 => M.pure (.nx ρ2)
      | .ret d => M.pure (.ret d)
def sWh (fuel : Env → Nat) (c : SemB) (b : SemS) : SemS := fun ρ => whLoop c b (fuel ρ) ρ
section
variable {G : Gh} {X : Cx} {pos : Pos}
theorem ds_fail {s : Stmt} : DS G X s sFail := PS.mono ps_never fun D σ H hq => by
  obtain ⟨I0, H0, I, k, ρ, o, k', F, e, q⟩ := hq
  cases e
theorem dss_nil : DSs G X [] sNext := PSs.mono pss_nil fun D σ H hq => by
  obtain ⟨I0, H0, I, k, ρ, o, k', F, e, q⟩ := hq
  cases e
  exact q I H σ F fun _ _ e => e
theorem ds_pass : DS G X (.Pass pos) sNext := PS.mono ps_pass fun D σ H hq => by
  obtain ⟨I0, H0, I, k, ρ, o, k', F, e, q⟩ := hq
  cases e
  exact q I H σ F fun _ _ e => e
theorem ds_cnt : DS G X (.Continue pos) sCnt := PS.mono ps_continue fun D σ H hq => by
  obtain ⟨I0, H0, I, k, ρ, o, k', F, e, q⟩ := hq
  cases e
  exact q I H σ F fun _ _ e => e
theorem ds_brk : DS G X (.Break pos) sBrk := PS.mono ps_break fun D σ H hq => by
  obtain ⟨I0, H0, I, k, ρ, o, k', F, e, q⟩ := hq
  cases e
  exact q I H σ F fun _ _ e => e
theorem td_seq {f g : SemS} {D : Ends} {σ : List (Option V)} {H : Hp} (hq : tDS G (sSeq f g) D σ H) : tSeq (tDS G f) (tDS G g) D σ H := by
  obtain ⟨I0, H0, I, k, ρ, o, k', F, e, q⟩ := hq
  obtain ⟨o1, k1, e1, e2⟩ := M.bind_some e
  refine ⟨I0, H0, I, k, ρ, o1, k1, F, e1, ?_⟩
  cases o1 with
  | nx ρ1 => exact fun I' H' σ' F' s' => ⟨I0, H0, I', k1, ρ1, o, k', F', e2, q.sub s'⟩
  | ret d => obtain ⟨rfl, rfl⟩ := M.pure_some e2; exact q
  | brk ρ1 => obtain ⟨rfl, rfl⟩ := M.pure_some e2; exact q
  | cnt ρ1 => obtain ⟨rfl, rfl⟩ := M.pure_some e2; exact q
theorem dss_cons {s : Stmt} {ss : List Stmt} {f g : SemS} (h : DS G X s f) (t : DSs G X ss g) : DSs G X (s :: ss) (sSeq f g) := PSs.mono (pss_cons h t) fun _ _ _ hq => td_seq hq
theorem ds_asg {tg e : Expr} {f : Sem} {t : Tg} (he : DE G X e f) (hg : DG G X tg t) (hs : swapsWithSole [tg] e pos.line X.env = pure false) (hw : swappedStores [tg] e X.env = pure none) (h1 : (assignEach [tg] X.env).map (·.2) = [assign tg X.env]) :
    DS G X (.Assign [tg] e pos) (sAsg f t) := PS.mono (ps_asg he hg hs hw h1) fun D σ H hq => by
  obtain ⟨I0, H0, I, k, ρ, o, k', F, e, q⟩ := hq
  obtain ⟨d, k1, e1, e2⟩ := M.bind_some e
  cases c : t.put d ρ with
  | none => rw [c] at e2; cases e2
  | some ρ1 =>
    rw [c] at e2
    obtain ⟨rfl, rfl⟩ := M.pure_some e2
    exact ⟨I0, H0, I, k, ρ, d, _, F, e1, fun I1 H1 v s1 r1 => ⟨I0, H0, I1, _, ρ, d, ρ1, F.step s1, r1, c, fun σ' F' _ => q I1 H1 σ' F' s1.sub⟩⟩
/-- x = [.. for ..] on one line -/
theorem ds_asgL {e : Expr} {x : Str} {py : Pos} {t : TE} {f : Sem} {i : Nat} (h : PS X (.Assign [.Name x py] e pos) (tAsg t (gName i))) (w : ∀ σ H Q, tD G f σ H Q → t σ H Q) : DS G X (.Assign [.Name x py] e pos) (sAsg f (tgName i)) := PS.mono h fun D σ H hq => by
  obtain ⟨I0, H0, I, k, ρ, o, k', F, e, q⟩ := hq
  obtain ⟨d, k1, e1, e2⟩ := M.bind_some e
  obtain ⟨rfl, rfl⟩ := M.pure_some e2
  exact w σ H _ ⟨I0, H0, I, k, ρ, d, _, F, e1, fun I1 H1 v s1 r1 => q I1 H1 _ ((F.step s1).set i r1) s1.sub⟩
theorem ds_if {c : Expr} {a b : List Stmt} {t : SemB} {f g : SemS} (hc : DT G X c t) (ha : DSs G X a f) (hb : DSs G X b g) : DS G X (.If c a b pos) (sIf t f g) := PS.mono (ps_if hc ha hb) fun D σ H hq => by
  obtain ⟨I0, H0, I, k, ρ, o, k', F, e, q⟩ := hq
  obtain ⟨x, k1, e1, e⟩ := M.bind_some e
  refine ⟨I0, H0, I, k, ρ, x, k1, F, e1, fun I1 H1 s1 => ?_⟩
  cases x with
  | true => exact iteT ⟨I0, H0, I1, k1, ρ, o, k', F.step s1, e, q.sub s1.sub⟩
  | false => exact iteF ⟨I0, H0, I1, k1, ρ, o, k', F.step s1, e, q.sub s1.sub⟩
theorem ds_ret {e : Expr} {f : Sem} (h : DE G X e f) : DS G X (.Return (some e) pos) (sRet f) := PS.mono (ps_ret h) fun D σ H hq => by
  obtain ⟨I0, H0, I, k, ρ, o, k', F, e, q⟩ := hq
  obtain ⟨d, k1, e1, e2⟩ := M.bind_some e
  obtain ⟨rfl, rfl⟩ := M.pure_some e2
  exact ⟨I0, H0, I, k, ρ, d, _, F, e1, fun I1 H1 v s1 r1 => q I1 H1 v (F.st.trans s1) r1⟩
theorem ds_retN : DS G X (.Return none pos) sRetN := PS.mono ps_retN fun D σ H hq => by
  obtain ⟨I0, H0, I, k, ρ, o, k', F, e, q⟩ := hq
  cases e
  exact q I H _ F.st .non
theorem ds_expr {e : Expr} {f : Sem} (h : DE G X e f) (hs : swapsWith e none pos.line X.env = pure false) : DS G X (.Expr e pos) (sDrop f) := PS.mono (ps_expr h hs) fun D σ H hq => by
  obtain ⟨I0, H0, I, k, ρ, o, k', F, e, q⟩ := hq
  obtain ⟨d, k1, e1, e2⟩ := M.bind_some e
  obtain ⟨rfl, rfl⟩ := M.pure_some e2
  exact ⟨I0, H0, I, k, ρ, d, _, F, e1, fun I1 H1 v s1 r1 => q I1 H1 σ (F.step s1) s1.sub⟩
-- ### loops 
theorem td_for {it : SemL} {t : Tg} {b : SemS} {D : Ends} {σ : List (Option V)} {H : Hp} (hq : tDS G (sFor it t b) D σ H) : tFor (tDI G it) (tDG G t) (tDS G b) D σ H := by
  obtain ⟨I0, H0, I, k, ρ, o, k', F, e, q⟩ := hq
  obtain ⟨ds, k1, e1, e2⟩ := M.bind_some e
  refine ⟨I0, H0, I, k, ρ, ds, k1, F, e1, fun I1 H1 J s1 y => ?_⟩
  refine for_it y (Pv := fun i σ' H' => ∃ I2 k2 ρ2, FI G I0 H0 I2 H' k2 σ' ρ2 ∧ Sub I1 I2 ∧ forLoop t b (ds.drop i) ρ2 k2 = some (o, k')) ⟨I1, k1, ρ, F.step s1, fun _ _ e => e, e2⟩ ?_ ?_ ?_
  · rintro i σ' H' _ ⟨I2, k2, ρ2, F2, s2, _⟩
    exact ⟨I2, k2, s2, F2.w⟩
  · rintro i x σ2 H2 H3 hi ⟨I2, k2, ρ2, F2, s2, hl⟩ hy
    obtain ⟨I3, d, s3, hd, rd⟩ := hy I2 k2 s2 F2.w
    have hdrop : ds.drop i = d :: ds.drop (i + 1) := by
      obtain ⟨h1, h2⟩ := List.getElem?_eq_some_iff.mp hd
      rw [← h2]; exact (List.drop_eq_getElem_cons h1)
    rw [hdrop] at hl
    simp only [forLoop] at hl
    cases c : t.put d ρ2 with
    | none => rw [c] at hl; cases hl
    | some ρ3 =>
      rw [c] at hl
      obtain ⟨o1, k3, e3, e4⟩ := M.bind_some hl
      refine ⟨I0, H0, I3, k2, ρ2, d, ρ3, F2.step s3, rd, c, fun σ3 F3 _ => ⟨I0, H0, I3, k2, ρ3, o1, k3, F3, e3, ?_⟩⟩
      have s13 : Sub I1 I3 := fun a u e => s3.sub a u (s2 a u e)
      cases o1 with
      | nx ρ4 => exact fun I' H' σ' F' s' => ⟨I', k3, ρ4, F', fun a u e => s' a u (s13 a u e), e4⟩
      | cnt ρ4 => exact fun I' H' σ' F' s' => ⟨I', k3, ρ4, F', fun a u e => s' a u (s13 a u e), e4⟩
      | ret d => obtain ⟨rfl, rfl⟩ := M.pure_some e4; exact q
      | brk ρ4 =>
        obtain ⟨rfl, rfl⟩ := M.pure_some e4
        exact fun I' H' σ' F' s' => q I' H' σ' F' fun a u e => s' a u (s13 a u (s1.sub a u e))
  · rintro σ2 H2 ⟨I2, k2, ρ2, F2, s2, hl⟩
    rw [List.drop_length] at hl
    obtain ⟨rfl, rfl⟩ := M.pure_some hl
    exact q I2 H2 σ2 F2 fun a u e => s2 a u (s1.sub a u e)
theorem ds_for {tg iter : Expr} {body : List Stmt} {it : SemL} {t : Tg} {b : SemS} (hp : PassesOwn (model X.prog X.w) X.A X.env X.xe) (hc : X.calm = true) (hi : DI G X tg iter it) (hg : DG G X tg t) (hb : DSs G X body b) (hs : ∀ x, foldedSetIterable iter X.env x = pure x) :
    DS G X (.For tg iter body [] pos) (sFor it t b) := PS.mono (ps_for hp hc hi hg hb hs) fun _ _ _ h => td_for h
theorem ds_wh {c : Expr} {body : List Stmt} {t : SemB} {b : SemS} (fuel : Env → Nat) (hp : PassesOwn (model X.prog X.w) X.A X.env X.xe) (hc : DT G X c t) (hb : DSs G X body b) : DS G X (.While c body [] pos) (sWh fuel t b) := PS.mono (ps_while hp hc hb) fun D σ H hq => by
  obtain ⟨I0, H0, I, k, ρ, o, k', F, e, q⟩ := hq
  refine ⟨fun m σ' H' => ∃ I2 k2 ρ2, FI G I0 H0 I2 H' k2 σ' ρ2 ∧ Sub I I2 ∧ whLoop t b m ρ2 k2 = some (o, k'), ⟨fuel ρ, I, k, ρ, F, fun _ _ e => e, e⟩, ?_⟩
  rintro m σ2 H2 ⟨I2, k2, ρ2, F2, s2, hl⟩
  cases m with
  | zero => cases hl
  | succ n =>
    simp only [whLoop] at hl
    obtain ⟨x, k3, e3, e4⟩ := M.bind_some hl
    refine ⟨I0, H0, I2, k2, ρ2, x, k3, F2, e3, fun I3 H3 s3 => ?_⟩
    have s13 : Sub I I3 := fun a u e => s3.sub a u (s2 a u e)
    cases x with
    | false =>
      obtain ⟨rfl, rfl⟩ := M.pure_some e4
      exact iteF (q I3 H3 σ2 (F2.step s3) s13)
    | true =>
      obtain ⟨o1, k5, e5, e6⟩ := M.bind_some e4
      refine iteT ⟨fun σ' H' => ∃ I' k' ρ', FI G I0 H0 I' H' k' σ' ρ' ∧ Sub I I' ∧ _, fun σ' H' h => ⟨n, Nat.lt_succ_self n, h⟩, I0, H0, I3, k3, ρ2, o1, k5, F2.step s3, e5, ?_⟩
      cases o1 with
      | nx ρ4 => exact fun I' H' σ' F' s' => ⟨I', k5, ρ4, F', fun a u e => s' a u (s13 a u e), e6⟩
      | cnt ρ4 => exact fun I' H' σ' F' s' => ⟨I', k5, ρ4, F', fun a u e => s' a u (s13 a u e), e6⟩
      | ret d => obtain ⟨rfl, rfl⟩ := M.pure_some e6; exact q
      | brk ρ4 =>
        obtain ⟨rfl, rfl⟩ := M.pure_some e6
        exact fun I' H' σ' F' s' => q I' H' σ' F' fun a u e => s' a u (s13 a u e)
-- ### a, b = x, y 
def sPar2 (i j : Nat) (f g : Sem) : SemS := fun ρ => M.bind (f ρ) fun x => M.bind (g ρ) fun y => M.pure (.nx ((ρ.set i (.val x)).set j (.val y)))
def sPar3 (i j l : Nat) (f g h : Sem) : SemS := fun ρ => M.bind (f ρ) fun x => M.bind (g ρ) fun y => M.bind (h ρ) fun z => M.pure (.nx (((ρ.set i (.val x)).set j (.val y)).set l (.val z)))
theorem ds_par2 {st : Stmt} {i j : Nat} {f g : Sem} (h : PS X st (tPar i j (tDL G (dCons f (dCons g dNil))))) : DS G X st (sPar2 i j f g) := PS.mono h fun D σ H hq => by
  obtain ⟨I0, H0, I, k, ρ, o, k', F, e, q⟩ := hq
  obtain ⟨x, k1, e1, e⟩ := M.bind_some e
  obtain ⟨y, k2, e2, e⟩ := M.bind_some e
  obtain ⟨rfl, rfl⟩ := M.pure_some e
  refine ⟨I0, H0, I, k, ρ, [x, y], k', F, by simp only [dCons, M.bind, e1, e2, dNil, M.pure], fun I1 H1 vs s1 r1 => ?_⟩
  cases r1 with
  | cons r r1 =>
    cases r1 with
    | cons r' r1 =>
      cases r1
      exact ⟨_, _, rfl, q I1 H1 _ (((F.step s1).set i r).set j r') s1.sub⟩
theorem ds_par3 {st : Stmt} {i j l : Nat} {f g h : Sem} (hh : PS X st (tPar3 i j l (tDL G (dCons f (dCons g (dCons h dNil)))))) : DS G X st (sPar3 i j l f g h) := PS.mono hh fun D σ H hq => by
  obtain ⟨I0, H0, I, k, ρ, o, k', F, e, q⟩ := hq
  obtain ⟨x, k1, e1, e⟩ := M.bind_some e
  obtain ⟨y, k2, e2, e⟩ := M.bind_some e
  obtain ⟨z, k3, e3, e⟩ := M.bind_some e
  obtain ⟨rfl, rfl⟩ := M.pure_some e
  refine ⟨I0, H0, I, k, ρ, [x, y, z], k', F, by simp only [dCons, M.bind, e1, e2, e3, dNil, M.pure], fun I1 H1 vs s1 r1 => ?_⟩
  cases r1 with
  | cons r r1 =>
    cases r1 with
    | cons r' r1 =>
      cases r1 with
      | cons r'' r1 =>
        cases r1
        exact ⟨_, _, _, rfl, q I1 H1 _ ((((F.step s1).set i r).set j r').set l r'') s1.sub⟩
end
end Sky

end
section
-- SkyI: def bodies, __init__ bodies, attributes laid, own lists. 
namespace Sky
open PySem PySem.Spec PyProof.Rows L2

-- ### a def's body 
def startE (n : Nat) (ds : List D) : Env := ds.map .val ++ List.replicate (n - ds.length) .no
def runB (n : Nat) (B : SemS) : Fn := fun ds k => match B (startE n ds) k with
  | some (.nx _, k') => some (.non, k')
  | some (.ret d, k') => some (d, k')
  | _ => none
abbrev cxB (P : Program) (w : World) (K : PySem.W.Frag) (mg : Str → Option Value) (base : Heap) (N : List Str) (qual : Str) (scope : Scope) (f : Addr) (cd : Value) (A : Around) (outer : List PySem.Env) (s : Shared) (H : Hp) (E : XK) : Cx :=
  (cxOf CX0 P w K mg base N qual scope f cd A outer s H E).nox
theorem start_get {N : List Str} {G : Gh} {I : Hp} {vs : List V} {ds : List D} (r : RepL G I vs ds) {i : Nat} {d : D} (h : (startE N.length ds)[i]? = some (.val d)) : ∃ v, (L2.start N vs)[i]? = some (some v) ∧ Rep G I v d := by
  unfold startE at h
  unfold L2.start
  by_cases q : i < ds.length
  · rw [List.getElem?_append_left (by simpa using q), List.getElem?_map] at h
    cases e : ds[i]? with
    | none => rw [e] at h; cases h
    | some a =>
      rw [e] at h; cases h
      obtain ⟨v, h1, h2⟩ := r.get e
      refine ⟨v, ?_, h2⟩
      rw [List.getElem?_append_left (by rw [List.length_map, r.length]; exact q), List.getElem?_map, h1]; rfl
  · rw [List.getElem?_append_right (by simpa using q), List.getElem?_replicate] at h
    split at h <;> cases h
theorem start_val {n : Nat} {ds : List D} {i : Nat} {s : Slot} (h : (startE n ds)[i]? = some s) : s = .no ∨ ∃ d, s = .val d := by
  unfold startE at h
  by_cases q : i < ds.length
  · rw [List.getElem?_append_left (by simpa using q), List.getElem?_map] at h
    cases e : ds[i]? with
    | none => rw [e] at h; cases h
    | some a => rw [e] at h; cases h; exact .inr ⟨_, rfl⟩
  · rw [List.getElem?_append_right (by simpa using q), List.getElem?_replicate] at h
    split at h
    · cases h; exact .inl rfl
    · cases h
theorem FI_start {G : Gh} {I H : Hp} {k : Nat} {N : List Str} {vs : List V} {ds : List D} (w : WOk G I H k) (r : RepL G I vs ds) (hl : vs.length ≤ N.length) : FI G I H I H k (L2.start N vs) (startE N.length ds) where
  st := Step.refl w
  len := by simp [L2.start, startE, r.length]
  val := fun i d h => start_get r h
  own := fun i d h => by rcases start_val h with e | ⟨_, e⟩ <;> cases e
  dis := fun i j d e a h => by rcases start_val h with e | ⟨_, e⟩ <;> cases e
  me := fun i c ds h => by rcases start_val h with e | ⟨_, e⟩ <;> cases e
  one := fun i j c e ds es h => by rcases start_val h with e | ⟨_, e⟩ <;> cases e
section
variable {P : Program} {w : World} {K : PySem.W.Frag} {mg : Str → Option Value} {base : Heap} {x qual : Str} {params : Arguments} {body : List Stmt} {scope : Scope} {f : Addr} {fd : FuncData} {N ps : List Str} {k : Nat} {G : Gh} {B : SemS}
theorem fn_data (F : FunD K x qual params body scope [] [] f fd) (S : FnScope N ps scope)
    (hb : ∀ da me cdv A outer s H E, Room k (A.deeper (envOfC qual scope s.heap.objs.size f cdv)) → DSs { G with da := da, me := me } (cxB P w K mg base N qual scope f cdv A outer s H E) body B) :
    FnOk P w K mg base CX0 (k + 1) f fd ps (spM G ps.length (runB N.length B)) := by
  refine F.ok S (fun vs H Q E h => h.1) fun cdv A outer s H vs Q E hr h => ?_
  obtain ⟨hl, da, me, I, k1, ds, d, k', w1, r, e, q⟩ := h
  have hpl : ps.length ≤ N.length := by have := congrArg List.length S.pre; rw [List.length_take] at this; omega
  refine ⟨_, PSs.nox (hb da me cdv A outer s H E hr), I, H, I, k1, startE N.length ds, ?_⟩
  unfold runB at e
  split at e
  · rename_i ρ k2 e1
    cases e
    exact ⟨_, _, FI_start w1 r (by omega), e1, fun I' H' σ' F' _ => q I' H' .non F'.st .non⟩
  · rename_i d1 k2 e1
    cases e
    exact ⟨_, _, FI_start w1 r (by omega), e1, fun I' H' v s1 r1 => q I' H' v s1 r1⟩
  · cases e
end

-- ### an __init__'s body 
mutual
theorem Rep.me {G : Gh} {m : Option (Addr × Addr × Addr)} {I : Hp} : ∀ {v : V} {d : D}, Rep { G with me := m } I v d → Rep G I v d
  | _, _, .non => .non
  | _, _, .bl b => .bl b
  | _, _, .int i => .int i
  | _, _, .str x => .str x
  | _, _, .tup h r => .tup h (r.me)
  | _, _, .lst h r => .lst h (r.me)
  | _, _, .ins h hc hl r => .ins h hc hl (r.me)
  | _, _, .dK h hk r => .dK h hk (r.me)
  | _, _, .dT h hk r => .dT h hk (r.me)
  | _, _, .scr => .scr
  | _, _, .drw h => .drw h
theorem RepL.me {G : Gh} {m : Option (Addr × Addr × Addr)} {I : Hp} : ∀ {v : List V} {d : List D}, RepL { G with me := m } I v d → RepL G I v d
  | _, _, .nil => .nil
  | _, _, .cons h t => .cons (h.me) (t.me)
end
theorem WOk.me {G : Gh} {m : Option (Addr × Addr × Addr)} {I H : Hp} {k : Nat} (w : WOk { G with me := m } I H k) : WOk G I H k := ⟨w.1, w.2, w.3⟩
theorem Step.me {G : Gh} {m : Option (Addr × Addr × Addr)} {I H I' H' : Hp} {k : Nat} (s : Step { G with me := m } I H I' H' k) : Step G I H I' H' k := ⟨s.1.me, s.2, s.3, s.4⟩
def startI (n : Nat) (c : Cn) (ds : List D) : Env := .me c [] :: startE (n - 1) ds
def runI (n : Nat) (c : Cn) (B : SemS) : FnI := fun ds k => match B (startI n c ds) k with
  | some (.nx ρ, k') => (match ρ[0]? with
    | some (Slot.me c' fs) => if c' = c then (if fs.length = c.fields.length then some (fs, k') else none) else none
    | _ => none)
  | _ => none
theorem FI_startI {G : Gh} {I H : Hp} {k : Nat} {N : List Str} {x dx C : Addr} {c : Cn} {vs : List V} {ds : List D} (w : WOk G I H k) (r : RepL G I vs ds) (hx : H x = none) (hd : H dx = none) (ne : dx ≠ x) (hC : G.cls c = some C) (hl : vs.length + 1 ≤ N.length) :
    FI { G with me := some (x, dx, C) } I H I (upd (upd H dx (.own x)) x (.ins C dx [])) k (L2.start N (.ref x :: vs)) (startI N.length c ds) := by
  obtain ⟨n0, N, rfl⟩ : ∃ n0 N', N = n0 :: N' := by
    cases N with
    | nil => simp at hl
    | cons a b => exact ⟨a, b, rfl⟩
  have nx : ∀ a o, H a = some o → a ≠ x := fun a o e q => by subst q; rw [hx] at e; cases e
  have nd : ∀ a o, H a = some o → a ≠ dx := fun a o e q => by subst q; rw [hd] at e; cases e
  have kp : ∀ a o, H a = some o → upd (upd H dx (.own x)) x (.ins C dx []) a = some o := fun a o e => by rw [upd_ne (nx a o e), upd_ne (nd a o e)]; exact e
  have r' : RepL { G with me := some (x, dx, C) } I vs ds := RepL.me (G := { G with me := some (x, dx, C) }) (m := G.me) r
  have ix : I x = none := by
    cases q : I x with
    | none => rfl
    | some o => have := w.inH x o q; rw [hx] at this; cases this
  have dne : G.da ≠ some x := w.ne hx
  refine ⟨⟨⟨fun a o e => kp a o (w.inH a o e), w.scr.sub fun o e => kp _ o e, fun d hd' => ?_⟩, fun a o e => e, fun a o e => .inl e, fun a o e _ => kp a o e⟩, ?_, ?_, ?_, ?_, ?_, ?_⟩
  · obtain ⟨h1, h2, h3⟩ := w.drw d hd'
    exact ⟨h1, h2, kp _ _ h3⟩
  · show (L2.start (n0 :: N) (.ref x :: vs)).length = (startI (n0 :: N).length c ds).length
    simp [L2.start, startI, startE, r.length]
  · intro i d h
    cases i with
    | zero => simp [startI] at h
    | succ i =>
      obtain ⟨v, h1, h2⟩ := start_get (N := N) r' (i := i) (d := d) (by simpa [startI] using h)
      refine ⟨v, ?_, h2⟩
      have e2 : L2.start (n0 :: N) (V.ref x :: vs) = some (.ref x) :: L2.start N vs := by simp [L2.start]
      rw [e2]
      simpa using h1
  · intro i d h
    cases i with
    | zero => simp [startI] at h
    | succ i => rcases start_val (n := N.length) (ds := ds) (by simpa [startI] using h) with e | ⟨_, e⟩ <;> cases e
  · intro i j d e a h
    cases i with
    | zero => simp [startI] at h
    | succ i => rcases start_val (n := N.length) (ds := ds) (by simpa [startI] using h) with e | ⟨_, e⟩ <;> cases e
  · intro i c' fs h
    cases i with
    | zero =>
      simp [startI] at h
      obtain ⟨rfl, rfl⟩ := h
      exact ⟨x, dx, C, [], rfl, by simp [L2.start], by rw [upd_same]; simp, hC, Nat.zero_le _, .nil, ix, hx, dne⟩
    | succ i => rcases start_val (n := N.length) (ds := ds) (by simpa [startI] using h) with e | ⟨_, e⟩ <;> cases e
  · intro i j c1 c2 d1 d2 h1 h2
    cases i with
    | zero =>
      cases j with
      | zero => rfl
      | succ j => rcases start_val (n := N.length) (ds := ds) (by simpa [startI] using h2) with e | ⟨_, e⟩ <;> cases e
    | succ i => rcases start_val (n := N.length) (ds := ds) (by simpa [startI] using h1) with e | ⟨_, e⟩ <;> cases e
section
variable {P : Program} {w : World} {K : PySem.W.Frag} {mg : Str → Option Value} {base : Heap} {x qual : Str} {params : Arguments} {body : List Stmt} {scope : Scope} {f : Addr} {fd : FuncData} {N ps : List Str} {k n : Nat} {G : Gh} {B : SemS} {c : Cn}
theorem fn_init (F : FunD K x qual params body scope [] [] f fd) (S : FnScope N ps scope) (hn : n + 1 = ps.length)
    (hb : ∀ da me cdv A outer s H E, Room k (A.deeper (envOfC qual scope s.heap.objs.size f cdv)) → DSs { G with da := da, me := me } (cxB P w K mg base N qual scope f cdv A outer s H E) body B) :
    FnOk P w K mg base CX0 (k + 1) f fd ps (spI G c n (runI N.length c B)) := by
  refine F.ok S (fun vs H Q E h => by rw [h.1, hn]) fun cdv A outer s H vs Q E hr h => ?_
  obtain ⟨hl, da, me, I, H1, k1, ds, fs, k', x, dx, C, as, rfl, rfl, hx, hd, ne, hC, w1, r, e, el, q⟩ := h
  have hpl : ps.length ≤ N.length := by have := congrArg List.length S.pre; rw [List.length_take] at this; omega
  have hl2 : as.length + 1 ≤ N.length := by simp at hl; omega
  refine ⟨_, PSs.nox (hb da (some (x, dx, C)) cdv A outer s _ E hr), I, H1, I, k1, startI N.length c ds, ?_⟩
  unfold runI at e
  split at e
  · rename_i ρ k2 e1
    split at e
    · rename_i c' fs' e2
      split at e
      · rename_i hc
        split at e
        · rename_i hfl
          cases e
          subst hc
          refine ⟨_, _, FI_startI (G := { G with da := da, me := me }) w1 r hx hd ne hC hl2, e1, fun I' H' σ' F' _ => ?_⟩
          obtain ⟨x', dx', C', vs', h1, h2, h3, h4, h5, h6, h7, h8, h9⟩ := F'.me 0 c' fs e2
          cases h1
          exact q I' H' vs' (Step.me (G := { G with da := da, me := me }) F'.st) h7 h3 (RepL.me (G := { G with da := da, me := me }) h6)
        · cases e
      · cases e
    · cases e
  · cases e
end
end Sky

end
section
-- SkyJ: attributes laid, own lists, isinstance. 
namespace Sky
open PySem PySem.Spec PyProof.Rows L2

section
variable {G : Gh} {I0 H0 I H : Hp} {k : Nat} {σ : List (Option V)} {ρ : Env}
theorem Step.write {x : Addr} {o : HO} (s : Step G I0 H0 I H k) (hI : I x = none) (h0 : H0 x = none) (hd : G.da ≠ some x) (hf : ∀ u l, H x ≠ some (.frz u l)) : Step G I0 H0 I (upd H x o) k where
  w := ⟨fun a u e => by
      have ne : a ≠ x := fun z => by rw [z, hI] at e; cases e
      rw [upd_ne ne]; exact s.w.inH a u e, by
      rcases s.w.scr with ⟨u, h⟩ | h
      · refine .inl ⟨u, ?_⟩
        have ne : G.sa ≠ x := fun z => by rw [z] at h; exact hf _ _ h
        rw [upd_ne ne]; exact h
      · exact .inr h, fun d h => by
      obtain ⟨h1, h2, h3⟩ := s.w.drw d h
      have ne : d ≠ x := fun z => hd (by rw [← z]; exact h)
      exact ⟨h1, h2, by rw [upd_ne ne]; exact h3⟩⟩
  sub := s.sub
  new := s.new
  same := fun a u e q => by
    have ne : a ≠ x := fun z => by rw [z, h0] at e; cases e
    rw [upd_ne ne]; exact s.same a u e q
/-- a heap that has more, for a moment's use -/
theorem Step.junk {p : Addr} {o : HO} (w : WOk G I H k) (hp : H p = none) : Step G I H I (upd H p o) k where
  w := ⟨fun a u e => by rw [upd_ne (ne_of_none (w.inH a u e) hp)]; exact w.inH a u e, w.scr.sub fun u e => by rw [upd_ne (ne_of_none e hp)]; exact e, fun d hd => by
    obtain ⟨h1, h2, h3⟩ := w.drw d hd
    exact ⟨h1, h2, by rw [upd_ne (ne_of_none h3 hp)]; exact h3⟩⟩
  sub := fun _ _ e => e
  new := fun _ _ e => .inl e
  same := fun a u e _ => by rw [upd_ne (ne_of_none e hp)]; exact e
theorem OwnRep.upd {a x : Addr} {o : HO} {d : D} (h : OwnRep G I H a d) (ne : a ≠ x) : OwnRep G I (upd H x o) a d :=
  h.step (fun _ _ e => e) fun u e => by rw [upd_ne ne]; exact e
theorem OwnRep.notIns {a : Addr} {d : D} {C dx : Addr} {fs : List (Str × V)} (h : OwnRep G I H a d) : H a ≠ some (.ins C dx fs) := by
  cases d <;> first | exact False.elim h | (obtain ⟨_, h, _⟩ := h; intro e; rw [h] at e; cases e)
theorem OwnRep.notFrz {a : Addr} {d : D} (h : OwnRep G I H a d) (u : Obj) (l : HO) : H a ≠ some (.frz u l) := by
  cases d <;> first | exact False.elim h | (obtain ⟨_, h, _⟩ := h; intro e; rw [h] at e; cases e)
theorem set_len {i : Nat} {s t : Slot} (h : ρ[i]? = some s) : (ρ.set i t)[i]? = some t := by
  rw [List.getElem?_set_self (List.getElem?_eq_some_iff.mp h).1]
/-- an attribute is laid -/
theorem FI.meSet (F : FI G I0 H0 I H k σ ρ) {i : Nat} {c : Cn} {ds : List D} {v : V} {d : D} (hρ : ρ[i]? = some (.me c ds)) (r : Rep G I v d) (hl : ds.length < c.fields.length) :
    ∃ x dx C vs, σ[i]? = some (some (V.ref x)) ∧ H x = some (.ins C dx (c.fields.zip vs)) ∧ G.cls c = some C ∧ vs.length = ds.length ∧ FI G I0 H0 I (upd H x (.ins C dx (c.fields.zip (vs ++ [v])))) k σ (ρ.set i (.me c (ds ++ [d]))) := by
  obtain ⟨x, dx, C, vs, h1, h2, h3, h4, h5, h6, h7, h8, h9⟩ := F.me i c ds hρ
  refine ⟨x, dx, C, vs, h2, h3, h4, h6.length, F.st.write h7 h8 h9 (fun u l e => by rw [h3] at e; cases e), by simpa using F.len, fun j e h => ?_, fun j e h => ?_, fun j l e1 e2 a q1 q2 => ?_, fun j c' es h => ?_, fun j l c1 c2 d1 d2 q1 q2 => ?_⟩
  · rcases set_get h with ⟨rfl, e1⟩ | ⟨ne, h⟩
    · cases e1
    · exact F.val j e h
  · rcases set_get h with ⟨rfl, e1⟩ | ⟨ne, h⟩
    · cases e1
    · obtain ⟨a, g1, g2, g3⟩ := F.own j e h
      exact ⟨a, g1, g2.upd (fun z => by subst z; exact g2.notIns h3), g3⟩
  · rcases set_get q1 with ⟨rfl, e⟩ | ⟨ne, q1⟩
    · cases e
    · rcases set_get q2 with ⟨rfl, e⟩ | ⟨ne2, q2⟩
      · cases e
      · exact F.dis j l e1 e2 a q1 q2
  · rcases set_get h with ⟨rfl, e1⟩ | ⟨ne, h⟩
    · cases e1
      exact ⟨x, dx, C, vs ++ [v], h1, h2, by rw [upd_same], h4, by rw [List.length_append, List.length_singleton]; omega, h6.append (.cons r .nil), h7, h8, h9⟩
    · exact absurd (F.one _ _ _ _ _ _ h hρ) ne
  · rcases set_get q1 with ⟨rfl, e⟩ | ⟨ne, q1⟩
    · rcases set_get q2 with ⟨rfl, e⟩ | ⟨ne2, q2⟩
      · rfl
      · exact absurd (F.one _ _ _ _ _ _ q2 hρ) ne2
    · exact absurd (F.one _ _ _ _ _ _ q1 hρ) ne
/-- an own list is rewritten -/
theorem FI.ownSet (F : FI G I0 H0 I H k σ ρ) {i : Nat} {ds es : List D} {a : Addr} {ws : List V} (hρ : ρ[i]? = some (.own (.lst ds))) (hσ : σ[i]? = some (some (V.ref a))) (hI : I a = none) (h0 : H0 a = none) (hd : G.da ≠ some a)
    (hH : ∃ vs, H a = some (.lst vs)) (r : RepL G I ws es) : FI G I0 H0 I (upd H a (.lst ws)) k σ (ρ.set i (.own (.lst es))) := by
  obtain ⟨vs, hH⟩ := hH
  refine ⟨F.st.write hI h0 hd (fun u l e => by rw [hH] at e; cases e), by simpa using F.len, fun j e h => ?_, fun j e h => ?_, fun j l e1 e2 b q1 q2 q3 q4 => ?_, fun j c' es h => ?_, fun j l c1 c2 d1 d2 q1 q2 => ?_⟩
  · rcases set_get h with ⟨rfl, e1⟩ | ⟨ne, h⟩
    · cases e1
    · exact F.val j e h
  · rcases set_get h with ⟨rfl, e1⟩ | ⟨ne, h⟩
    · cases e1
      exact ⟨a, hσ, ⟨ws, by rw [upd_same], r⟩, hI, h0, hd⟩
    · obtain ⟨b, g1, g2, g3⟩ := F.own j e h
      exact ⟨b, g1, g2.upd (fun z => by subst z; exact ne (F.dis j i _ _ _ h hρ g1 hσ)), g3⟩
  · rcases set_get q1 with ⟨rfl, e⟩ | ⟨ne, q1'⟩
    · rcases set_get q2 with ⟨rfl, e'⟩ | ⟨ne2, q2⟩
      · rfl
      · exact F.dis _ _ _ _ b hρ q2 q3 q4
    · skip
      rcases set_get q2 with ⟨rfl, e'⟩ | ⟨ne2, q2⟩
      · exact F.dis _ _ _ _ b q1' hρ q3 q4
      · exact F.dis _ _ _ _ b q1' q2 q3 q4
  · rcases set_get h with ⟨rfl, e1⟩ | ⟨ne, h⟩
    · cases e1
    · obtain ⟨x, dx, C, vs, h1, h2, h3, h4⟩ := F.me j _ _ h
      exact ⟨x, dx, C, vs, h1, h2, by rw [upd_ne (fun z => by subst z; rw [hH] at h3; cases h3)]; exact h3, h4⟩
  · rcases set_get q1 with ⟨rfl, e⟩ | ⟨ne, q1⟩
    · cases e
    · rcases set_get q2 with ⟨rfl, e⟩ | ⟨ne2, q2⟩
      · cases e
      · exact F.one _ _ _ _ _ _ q1 q2
/-- a new own list -/
theorem FI.ownNew (F : FI G I0 H0 I H k σ ρ) {i : Nat} {es : List D} {a : Addr} {ws : List V} (hi : i < ρ.length) (hp : H a = none) (r : RepL G I ws es) : FI G I0 H0 I (upd H a (.lst ws)) k (σ.set i (some (.ref a))) (ρ.set i (.own (.lst es))) := by
  have hI : I a = none := by
    cases q : I a with
    | none => rfl
    | some o => have := F.w.inH a o q; rw [hp] at this; cases this
  have hd : G.da ≠ some a := F.w.ne hp
  have h0 : H0 a = none := by
    cases q : H0 a with
    | none => rfl
    | some o => have := F.st.same a o q hd; rw [hp] at this; cases this
  have F' := F.step (Step.junk (o := .lst ws) F.w hp)
  refine ⟨F'.st, by simpa using F.len, fun j e h => ?_, fun j e h => ?_, fun j l e1 e2 b q1 q2 q3 q4 => ?_, fun j c' es h => ?_, fun j l c1 c2 d1 d2 q1 q2 => ?_⟩
  · rcases set_get h with ⟨rfl, e1⟩ | ⟨ne, h⟩
    · cases e1
    · obtain ⟨v, g1, g2⟩ := F.val j e h
      exact ⟨v, by rw [List.getElem?_set_ne (Ne.symm ne)]; exact g1, g2⟩
  · rcases set_get h with ⟨rfl, e1⟩ | ⟨ne, h⟩
    · cases e1
      exact ⟨a, by rw [List.getElem?_set_self (by rw [F.len]; exact hi)], ⟨ws, by rw [upd_same], r⟩, hI, h0, hd⟩
    · obtain ⟨b, g1, g2⟩ := F'.own j e h
      exact ⟨b, by rw [List.getElem?_set_ne (Ne.symm ne)]; exact g1, g2⟩
  · have key : ∀ (j : Nat) (e : D), ρ[j]? = some (.own e) → j ≠ i → (σ.set i (some (V.ref a)))[j]? ≠ some (some (V.ref a)) := fun j e h ne z => by
      rw [List.getElem?_set_ne (Ne.symm ne)] at z
      obtain ⟨b, g1, g2, _⟩ := F.own j e h
      rw [z] at g1; cases g1
      obtain ⟨o, ho⟩ := g2.there
      rw [hp] at ho; cases ho
    rcases set_get q1 with ⟨rfl, e⟩ | ⟨ne, q1'⟩
    · rcases set_get q2 with ⟨rfl, e'⟩ | ⟨ne2, q2⟩
      · rfl
      · rw [List.getElem?_set_self (by rw [F.len]; exact hi)] at q3
        cases q3
        exact absurd q4 (key _ _ q2 ne2)
    · rcases set_get q2 with ⟨rfl, e'⟩ | ⟨ne2, q2⟩
      · rw [List.getElem?_set_self (by rw [F.len]; exact hi)] at q4
        cases q4
        exact absurd q3 (key _ _ q1' ne)
      · rw [List.getElem?_set_ne (Ne.symm ne)] at q3
        rw [List.getElem?_set_ne (Ne.symm ne2)] at q4
        exact F.dis _ _ _ _ b q1' q2 q3 q4
  · rcases set_get h with ⟨rfl, e1⟩ | ⟨ne, h⟩
    · cases e1
    · obtain ⟨x, dx, C, vs, h1, h2, h3⟩ := F'.me j _ _ h
      exact ⟨x, dx, C, vs, h1, by rw [List.getElem?_set_ne (Ne.symm ne)]; exact h2, h3⟩
  · rcases set_get q1 with ⟨rfl, e⟩ | ⟨ne, q1⟩
    · cases e
    · rcases set_get q2 with ⟨rfl, e⟩ | ⟨ne2, q2⟩
      · cases e
      · exact F.one _ _ _ _ _ _ q1 q2
/-- an own list is told on: from here on it never changes -/
theorem FI.freeze (F : FI G I0 H0 I H k σ ρ) {i : Nat} {ds : List D} (hρ : ρ[i]? = some (.own (.lst ds))) : ∃ I', Sub I I' ∧ FI G I0 H0 I' H k σ (ρ.set i (.val (.lst ds))) := by
  obtain ⟨a, hσ, ⟨vs, hH, r⟩, hI, h0, hd⟩ := F.own i _ hρ
  have sb : Sub I (upd I a (.lst vs)) := fun b u e => by
    have ne : b ≠ a := fun z => by rw [z, hI] at e; cases e
    rw [upd_ne ne]; exact e
  refine ⟨upd I a (.lst vs), sb, ⟨⟨fun b u e => ?_, F.w.scr, fun d h => ?_⟩, fun b u e => sb b u (F.st.sub b u e), fun b u e => ?_, F.st.same⟩, by simpa using F.len, fun j e h => ?_, fun j e h => ?_, fun j l e1 e2 b q1 q2 q3 q4 => ?_, fun j c' es h => ?_, fun j l c1 c2 d1 d2 q1 q2 => ?_⟩
  · by_cases z : b = a
    · subst z; rw [upd_same] at e; cases e; exact hH
    · rw [upd_ne z] at e; exact F.w.inH b u e
  · obtain ⟨h1, h2, h3⟩ := F.w.drw d h
    have ne : d ≠ a := fun z => hd (by rw [← z]; exact h)
    exact ⟨h1, by rw [upd_ne ne]; exact h2, h3⟩
  · by_cases z : b = a
    · subst z; exact .inr h0
    · rw [upd_ne z] at e; exact F.st.new b u e
  · rcases set_get h with ⟨rfl, e1⟩ | ⟨ne, h⟩
    · cases e1
      exact ⟨_, hσ, .lst upd_same (r.sub sb)⟩
    · obtain ⟨v, g1, g2⟩ := F.val j e h
      exact ⟨v, g1, g2.sub sb⟩
  · rcases set_get h with ⟨rfl, e1⟩ | ⟨ne, h⟩
    · cases e1
    · obtain ⟨b, g1, g2, g3, g4⟩ := F.own j e h
      have nb : b ≠ a := fun z => by subst z; exact ne (F.dis j i _ _ _ h hρ g1 hσ)
      exact ⟨b, g1, g2.step sb (fun o e => e), by rw [upd_ne nb]; exact g3, g4⟩
  · rcases set_get q1 with ⟨rfl, e⟩ | ⟨ne, q1⟩
    · cases e
    · rcases set_get q2 with ⟨rfl, e⟩ | ⟨ne2, q2⟩
      · cases e
      · exact F.dis _ _ _ _ b q1 q2 q3 q4
  · rcases set_get h with ⟨rfl, e1⟩ | ⟨ne, h⟩
    · cases e1
    · obtain ⟨x, dx, C, ws, h1, h2, h3, h4, h5, h6, h7, h8⟩ := F.me j _ _ h
      have nb : x ≠ a := fun z => by subst z; rw [hH] at h3; cases h3
      exact ⟨x, dx, C, ws, h1, h2, h3, h4, h5, h6.sub sb, by rw [upd_ne nb]; exact h7, h8⟩
  · rcases set_get q1 with ⟨rfl, e⟩ | ⟨ne, q1⟩
    · cases e
    · rcases set_get q2 with ⟨rfl, e⟩ | ⟨ne2, q2⟩
      · cases e
      · exact F.one _ _ _ _ _ _ q1 q2
end

-- ### statements 
section
variable {G : Gh} {X : Cx} {pos pos' apos cpos py p0 : Pos}
def sMe (i : Nat) (f : Str) (g : Sem) : SemS := fun ρ => M.bind (g ρ) fun d => match ρ[i]? with
  | some (Slot.me c ds) => (match c.fields[ds.length]? == some f with
    | true => M.pure (.nx (ρ.set i (.me c (ds ++ [d]))))
    | false => M.fail)
  | _ => M.fail
theorem putF_new {f : Str} {v : V} : ∀ {ns : List Str} {vs : List V}, ns.Nodup → ns[vs.length]? = some f → putF f v (ns.zip vs) = ns.zip (vs ++ [v])
  | [], vs, _, h => by simp at h
  | n :: ns, [], nd, h => by
    simp at h; subst h
    cases ns <;> rfl
  | n :: ns, w :: vs, nd, h => by
    have nd' := List.nodup_cons.mp nd
    have h' : ns[vs.length]? = some f := by simpa using h
    have ne : n ≠ f := fun z => nd'.1 (by rw [z]; exact List.mem_of_getElem? h')
    simp only [List.zip_cons_cons, List.cons_append, putF, if_neg ne]
    rw [putF_new nd'.2 h']
theorem fields_nodup (c : Cn) : c.fields.Nodup := by cases c <;> decide
theorem fields_few (c : Cn) : c.fields.length < 1000 := by cases c <;> decide
theorem ds_me {o value : Expr} {f : Str} {i : Nat} {g : Sem} (hK : X.K = G.K) (hC : ∀ c C, G.cls c = some C → ClsOk G c C) (ho : PE X o (tVar i)) (hv : DE G X value g) (hs : swapsWith value (some (.Attribute o f pos')) pos.line X.env = pure false) :
    DS G X (.Assign [.Attribute o f pos'] value pos) (sMe i f g) := PS.mono (ps_fld ho hv hs) fun D σ H hq => by
  obtain ⟨I0, H0, I, k, ρ, o, k', F, e, q⟩ := hq
  obtain ⟨d, k1, e1, e2⟩ := M.bind_some e
  cases c0 : ρ[i]? with
  | none => rw [c0] at e2; cases e2
  | some sl =>
    rw [c0] at e2
    cases sl with
    | me c ds =>
      simp only at e2
      cases c1 : (c.fields[ds.length]? == some f) with
      | false => rw [c1] at e2; cases e2
      | true =>
        rw [c1] at e2
        obtain ⟨rfl, rfl⟩ := M.pure_some e2
        refine ⟨I0, H0, I, k, ρ, d, _, F, e1, fun I1 H1 v s1 r1 => ?_⟩
        have hf : c.fields[ds.length]? = some f := eq_of_beq c1
        have hl : ds.length < c.fields.length := (List.getElem?_eq_some_iff.mp hf).1
        obtain ⟨x, dx, C, vs, h1, h2, h3, h4, F'⟩ := (F.step s1).meSet c0 r1 hl
        have ok := hC _ _ h3
        refine ⟨.ref x, h1, x, C, dx, _, rfl, h2, by rw [hK]; exact ok.cl, by rw [hK]; exact ok.no f (List.mem_of_getElem? hf), ?_, ?_⟩
        · rw [List.length_zip]; have := fields_few c; omega
        · rw [putF_new (fields_nodup c) (by rw [h4]; exact hf)]
          exact q _ _ _ F' s1.sub
    | _ => cases e2
/-- x = [..], a list that this name alone holds -/
def sOwn (f : SemL) (i : Nat) : SemS := fun ρ => M.bind (f ρ) fun ds => if ds.length ≤ 1000000 ∧ i < ρ.length then M.pure (.nx (ρ.set i (.own (.lst ds)))) else M.fail
theorem ds_own {es : List Expr} {x : Str} {f : SemL} {i : Nat} (ha : DA G X es f) (h : ∀ te, PE X (.List es p0) te → PS X (.Assign [.Name x py] (.List es p0) pos) (tAsg te (gName i))) :
    DS G X (.Assign [.Name x py] (.List es p0) pos) (sOwn f i) := PS.mono (h _ (pe_lst ha)) fun D σ H hq => by
  obtain ⟨I0, H0, I, k, ρ, o, k', F, e, q⟩ := hq
  obtain ⟨ds, k1, e1, e2⟩ := M.bind_some e
  by_cases c : ds.length ≤ 1000000 ∧ i < ρ.length
  · rw [if_pos c] at e2
    obtain ⟨rfl, rfl⟩ := M.pure_some e2
    refine ⟨I0, H0, I, k, ρ, ds, _, F, e1, fun I1 H1 vs s1 r1 => ⟨by rw [r1.length, sizeLine_eq]; omega, fun p hp => ?_⟩⟩
    exact q _ _ _ ((F.step s1).ownNew c.2 hp r1) s1.sub
  · rw [if_neg c] at e2; cases e2
/-- x.append(e), x an own list -/
def sApp (i : Nat) (f : Sem) : SemS := fun ρ => M.bind (f ρ) fun d => match ρ[i]? with
  | some (Slot.own (.lst ds)) => if ds.length < 1000000 then M.pure (.nx (ρ.set i (.own (.lst (ds ++ [d]))))) else M.fail
  | _ => M.fail
theorem ds_app {o e : Expr} {i : Nat} {f : Sem} (ho : PE X o (tVar i)) (he : DE G X e f) (hs : swapsWith (.Call (.Attribute o "append" apos) [e] [] cpos) none pos.line X.env = pure false)
    (hbase : attributeBase o "append" X.env (eval o X.env) = eval o X.env)
    (hfew : ((backTo cpos (starEach [e] X.env)).all (fun x => !x.1) && (backToKw cpos (keywordEach [] X.env)).all (fun x => x.1.isSome)
      && decide (([e]).length + ([] : List Keyword).length + (if ([] : List Keyword).isEmpty then 0 else 1) < 30)) = true)
    (hline : (apos.endLine == cpos.line) = true) (hst : starEach [e] X.env = (false, eval e X.env) :: starEach [] X.env) (hplain : (backTo cpos (starEach [] X.env)).any (·.1) = false) :
    DS G X (.Expr (.Call (.Attribute o "append" apos) [e] [] cpos) pos) (sApp i f) :=
  PS.mono (ps_expr (pe_bm PySem.F.plainAttrs_list PySem.F.slot_list_append PySem.F.type_list_append mt_append ho (pa_cons he pa_nil hst) hbase hfew hline hst hplain) hs) fun D σ H hq => by
  obtain ⟨I0, H0, I, k, ρ, o, k', F, e, q⟩ := hq
  obtain ⟨d, k1, e1, e2⟩ := M.bind_some e
  cases c0 : ρ[i]? with
  | none => rw [c0] at e2; cases e2
  | some sl =>
    rw [c0] at e2
    cases sl with
    | own l =>
      cases l with
      | lst ds =>
        simp only at e2
        by_cases c : ds.length < 1000000
        · rw [if_pos c] at e2
          obtain ⟨rfl, rfl⟩ := M.pure_some e2
          obtain ⟨a, g1, ⟨vs, hH, r⟩, g3, g4, g5⟩ := F.own i _ c0
          refine ⟨.ref a, g1, ?_, ?_⟩
          · exact .inl ⟨rfl, vs, .inl (.inl hH)⟩
          · refine ⟨I0, H0, I, k, ρ, d, _, F, e1, fun I1 H1 v s1 r1 => ?_⟩
            have F1 := F.step s1
            obtain ⟨b, g1', ⟨ws, hW, rw1⟩, g3', g4', g5'⟩ := F1.own i _ c0
            obtain rfl : a = b := by rw [g1] at g1'; cases g1'; rfl
            refine ⟨a, ws, v, rfl, rfl, hW, by rw [rw1.length, sizeLine_eq]; omega, ?_⟩
            exact q _ _ _ (F1.ownSet c0 g1' g3' g4' g5' ⟨ws, hW⟩ (rw1.append (.cons r1 .nil))) s1.sub
        · rw [if_neg c] at e2; cases e2
      | _ => cases e2
    | _ => cases e2
/-- from here on the name's list never changes -/
def sFrz (i : Nat) (f : SemS) : SemS := fun ρ => match ρ[i]? with
  | some (Slot.own (.lst ds)) => f (ρ.set i (.val (.lst ds)))
  | _ => f ρ
theorem td_frz {i : Nat} {f : SemS} {D : Ends} {σ : List (Option V)} {H : Hp} (hq : tDS G (sFrz i f) D σ H) : tDS G f D σ H := by
  obtain ⟨I0, H0, I, k, ρ, o, k', F, e, q⟩ := hq
  have same : f ρ k = some (o, k') → tDS G f D σ H := fun e => ⟨I0, H0, I, k, ρ, o, k', F, e, q⟩
  unfold sFrz at e
  cases c : ρ[i]? with
  | none => rw [c] at e; exact same e
  | some sl =>
    rw [c] at e
    cases sl with
    | own d =>
      cases d with
      | lst ds =>
        obtain ⟨I', sb, F'⟩ := F.freeze c
        exact ⟨I0, H0, I', k, _, o, k', F', e, q.sub sb⟩
      | _ => exact same e
    | _ => exact same e
theorem ds_frz {s : Stmt} {i : Nat} {f : SemS} (h : DS G X s f) : DS G X s (sFrz i f) := PS.mono h fun D σ H hq => td_frz hq
theorem dss_frz {s : List Stmt} {i : Nat} {f : SemS} (h : DSs G X s f) : DSs G X s (sFrz i f) := PSs.mono h fun D σ H hq => td_frz hq
end
end Sky

end
section
-- SkyK: isinstance, == and != of instances by their own __eq__. 
namespace PySem.W
open PySem PySem.Spec PySem.Calls PyProof.Rows Builtin
section
variable {prog : Program} {w : World} {A A₀ : Around} {E : Value → Shared → Prop} {s : Shared} {K : Frag} {x C L f : Addr} {h₀ : Heap} {m : Str → Option Value} {ox : Obj} {od : Option Obj} {name : Str} {b tb : Value}
theorem sky_check (X : K.In s.heap) (I : InstAt s.heap x ox C od) (hob : subIn K (.ref C) (.type "object") = some true) {M : Model} {Q : Unit → Shared → Prop} (hq : Q () s) :
    wpAny M A (checkBuiltinCall "object.__ne__" ⟨.ref x :: [b], []⟩) Q E s := by
  simp only [checkBuiltinCall, F.cmpKind_ne, F.cmpSplit_ne]
  refine wpAny_bind ?_
  · unfold isInstance
    repeat (first | (with_reducible refine I.type.here ?_) | (with_reducible refine (looks_subIn X hob).here ?_) | wp_step)
    exact hq
theorem sky_ne (hu : A.units + 1 < cLine) (Fr' : Fr h₀ L s.heap m) (X₀ : K.In h₀) (I : InstAt s.heap x ox C od) (hb : Looks (model prog w) s.heap (typeOf b) tb) (hn : notFirst K C tb = true)
    (hne : findIn K (.ref C) "__ne__" = some (some (.builtin "object.__ne__"))) (hob : subIn K (.ref C) (.type "object") = some true)
    (hs : findIn K (.ref C) "__eq__" = some (some (.ref f))) (hf : isFn K (.ref f) = true) {Q : Value → Shared → Prop}
    (h : wpAny (model prog w) A.in1 (call (.ref f) [.ref x, b]) (fun v s' => ∃ r, v = .bool r ∧ Q (.bool (!r)) s') E s) : wpAny (model prog w) A (richCompare .NotEq (.ref x) b) Q E s := by
  have X := X₀.keeps Fr'.keep
  have FB := F.cmp_object
  have body : ∀ {Q : Fin → Shared → Prop}, wpAny (model prog w) A.in1 (call (.ref f) [.ref x, b]) (fun v s' => ∃ r, v = .bool r ∧ Q (.done (.ret (.bool (!r)))) s') E s →
      wpAny (model prog w) A.in1 (Builtin.«object.__ne__» ⟨[.ref x, b], []⟩) Q E s := fun {Q} hc => by
    unfold Builtin.«object.__ne__»
    have hu1 : A.in1.units < cLine := hu
    repeat (first
      | with_reducible refine wpAny_cRoomFor hu1 ?_
      | (refine wpAny_bind (m := callSpecialIfBound? (.ref x) (Str.ofString "__eq__") [b])
          (ifBound_K X I hs hf (wpAny_mono hc (fun r s' hr => by
            obtain ⟨b, rfl, hq⟩ := hr
            repeat (first | exact hq | exact wpAny_pure hq | exact wpAny_truthy_bool hq | (refine wpAny_bind (m := truthy (.bool _)) (wpAny_truthy_bool ?_)) | wp_step)) fun _ _ e => e)))
      | wp_step)
  have callNe : ∀ {Q : Value → Shared → Prop}, wpAny (model prog w) A.in1 (call (.ref f) [.ref x, b]) (fun v s' => ∃ r, v = .bool r ∧ Q (.bool (!r)) s') E s → wpAny (model prog w) A (call (.builtin "object.__ne__") [.ref x, b]) Q E s := fun {Q} hc =>
    wpAny_call (codeAny_call_builtin FB.ne.plain F.cmpEntry_ne (sky_check X I hob (body (wpAny_mono hc (fun v s' hv => by
      obtain ⟨r, rfl, hq⟩ := hv
      exact ⟨r, rfl, hq⟩) fun _ _ e => e))))
  have ifb : ∀ {Q : Option Value → Shared → Prop}, wpAny (model prog w) A (call (.builtin "object.__ne__") [.ref x, b]) (fun v => Q (some v)) E s → wpAny (model prog w) A (callSpecialIfBound? (.ref x) "__ne__" [b]) Q E s := fun {Q} h => by
    simp only [callSpecialIfBound?, bindSpecialIfBound?]
    refine wpAny_holding (wpAny_bind (wpAny_bind (wpAny_bind (I.type.here ((looks_findIn X hne).here ?_)))))
    simp only [FB.ne.bind]
    refine wpAny_bind (wpAny_askSetting (wpAny_ite ?_))
    have fin : wpAny (model prog w) A (call (.builtin "object.__ne__") ([.ref x] ++ [b]) >>= fun v => pure (some v)) Q E s := wpAny_bind (wpAny_mono h (fun v s' h' => wpAny_pure h') fun _ _ h' => h')
    split
    · exact wpAny_bind (wpAny_pure (wpAny_pure fin))
    · exact wpAny_tryCatch (wpAny_bind (wpAny_pure (wpAny_pure fin)))
  have one : wpAny (model prog w) A (tryCompare (.ref x) "__ne__" b) (fun r s' => ∃ v, r = some v ∧ Q v s') E s := by
    unfold tryCompare
    refine wpAny_bind (ifb (callNe (wpAny_mono h (fun v s' hv => ?_) fun _ _ e => e)))
    obtain ⟨r, rfl, hq⟩ := hv
    exact ⟨r, rfl, wpAny_pure ⟨_, rfl, hq⟩⟩
  unfold richCompare
  simp only [oneThing_ref]
  have hu0 : A.units < cLine := Nat.lt_of_succ_lt hu
  refine wpAny_holding (wpAny_bind (wpAny_cRoomFor hu0 ?_))
  rw [cmpInfo_NotEq]
  dsimp only
  refine wpAny_bind (I.type.here (wpAny_bind (hb.here ?_)))
  split
  · rename_i q
    have e : subIn K tb (.ref C) = some false := by
      rcases Bool.or_eq_true_iff.mp hn with e | e
      · rw [beq_iff_eq.mp e] at q; simp at q
      · exact beq_iff_eq.mp e
    refine wpAny_bind ((looks_subIn X e).here ?_)
    simp only [Bool.false_eq_true, if_false]
    refine wpAny_bind (wpAny_mono one (fun r s' z => ?_) fun _ _ e => e)
    obtain ⟨v, rfl, hq⟩ := z
    exact wpAny_pure hq
  · refine wpAny_bind (wpAny_pure ?_)
    simp only [Bool.false_eq_true, if_false]
    refine wpAny_bind (wpAny_mono one (fun r s' z => ?_) fun _ _ e => e)
    obtain ⟨v, rfl, hq⟩ := z
    exact wpAny_pure hq
end
end PySem.W
namespace Sky
open PySem PySem.Spec PyProof.Rows L2
-- ### the kinds of data, as isinstance tells them 
inductive Kl where
  | non | bool | int | str | tuple | list | dict | own (c : Cn)
  deriving DecidableEq
def Kl.u (G : Gh) : Kl → Option Value
  | .non => some (.type "NoneType") | .bool => some (.type "bool") | .int => some (.type "int") | .str => some (.type "str") | .tuple => some (.type "tuple") | .list => some (.type "list") | .dict => some (.type "dict")
  | .own c => (G.cls c).map .ref
def Kl.v (G : Gh) : Kl → Option V
  | .non => some (.ty "NoneType") | .bool => some (.ty "bool") | .int => some (.ty "int") | .str => some (.ty "str") | .tuple => some (.ty "tuple") | .list => some (.ty "list") | .dict => some (.ty "dict")
  | .own c => (G.cls c).map .ref
def Kl.sub (t u : Kl) : Bool := decide (t = u) || (decide (t = .bool) && decide (u = .int))
def D.kl : D → Option Kl
  | .non => some .non | .bl _ => some .bool | .int _ => some .int | .str _ => some .str | .tup _ => some .tuple | .lst _ => some .list | .ins c _ => some (.own c) | .dK _ => some .dict
  | _ => none
/-- what must be known of the classes -/
structure KitOk (G : Gh) : Prop where
  one : ∀ (t u : Kl) (a b : Value), t.u G = some a → u.u G = some b → PySem.W.kitOne G.K a b = some (t.sub u)
  cls : ∀ c C, G.cls c = some C → ClsOk G c C
  ha : ∀ c C, G.cls c = some C → PySem.W.findIn G.K (.ref C) "__class__" = some (some (.builtin "object.__class__"))
  hn : PySem.W.specialIn G.K (.builtin "object.__class__") "__get__" = some (some (.builtin "getset_descriptor.__get__"))
  ht : PySem.W.takesIn G.K (.builtin "object.__class__") = some true
  hm : ∀ c C, G.cls c = some C → PySem.W.mroIn G.K C (.type "object") = some true
  nf : ∀ (c : Cn) (C : Addr) (t : Kl) (a : Value), G.cls c = some C → t.u G = some a → PySem.W.notFirst G.K C a = true
  ne : ∀ c C, G.cls c = some C → PySem.W.findIn G.K (.ref C) "__ne__" = some (some (.builtin "object.__ne__"))
  ob : ∀ c C, G.cls c = some C → PySem.W.subIn G.K (.ref C) (.type "object") = some true
section
variable {G : Gh} {X : Cx} {pos p p1 p2 pt : Pos}
theorem tyx_of (kit : KitOk G) {I H : Hp} {v : V} {d : D} {t : Kl} (w : Sub I H) (h : RepB G I H v d) (e : d.kl = some t) : ∃ a, t.u G = some a ∧ TyX G.K H v a := by
  rcases h with h | ⟨a, rfl, h, _⟩
  · cases h with
    | non => cases e; exact ⟨_, rfl, .base .non⟩
    | bl b => cases e; exact ⟨_, rfl, .base (.bl b)⟩
    | int i => cases e; exact ⟨_, rfl, .base (.int i)⟩
    | str x => cases e; exact ⟨_, rfl, .base (.str x)⟩
    | tup h r =>
      cases e
      refine ⟨_, rfl, ?_⟩
      rcases h with (h | ⟨o, h⟩) | ⟨o, its, n, h1, h2, h3⟩
      · exact .base (.tup (w _ _ h))
      · exact .fTuple (w _ _ h)
      · exact .kTuple h1 h2
    | lst h r => cases e; exact ⟨_, rfl, .base (.lst (w _ _ h))⟩
    | ins h hc hl r =>
      cases e
      exact ⟨_, by show (G.cls _).map Value.ref = _; rw [hc]; rfl, .base (.ins (w _ _ h) (kit.cls _ _ hc).cl (kit.ha _ _ hc) kit.hn kit.ht (kit.hm _ _ hc))⟩
    | dK h hk r =>
      cases e
      refine ⟨_, rfl, ?_⟩
      rcases h with h | ⟨o, h⟩
      · exact .base (.dK (w _ _ h))
      · exact .fDict (w _ _ h)
    | dT h hk r => cases e
    | scr => cases e
    | drw h => cases e
  · cases d <;> first | exact False.elim h | skip
    · obtain ⟨vs, h, r⟩ := h; cases e; exact ⟨_, rfl, .base (.lst h)⟩
    · obtain ⟨vs, h, r⟩ := h; cases e; exact ⟨_, rfl, .base (.dK h)⟩
    · cases e
end
end Sky

end
section
-- SkyL: isinstance, == and != with instances, by data. 
namespace Sky
open PySem PySem.Spec PyProof.Rows L2
section
variable {G : Gh} {X : Cx} {pos p p1 p2 pt : Pos} {a b : Expr}
theorem klv_cls {t : Kl} {w : V} (h : t.v G = some w) : ∃ u, t.u G = some u ∧ ClsV w u := by
  cases t <;> first | (cases h; exact ⟨_, rfl, .ty _⟩) | skip
  rename_i c
  change (G.cls c).map V.ref = some w at h
  show ∃ u, (G.cls c).map Value.ref = some u ∧ ClsV w u
  cases q : G.cls c with
  | none => rw [q] at h; cases h
  | some C => rw [q] at h; cases h; exact ⟨_, rfl, .own C⟩
def dIsi (t : Kl) (f : Sem) : Sem := fun ρ => M.bind (f ρ) fun d => M.lift (d.kl.map fun s => .bl (s.sub t))
theorem de_isi {t : Kl} {w : V} {f : Sem} (hK : X.K = G.K) (kit : KitOk G) (hg : Gl X "isinstance") (hm : X.mg "isinstance" = none) (hw : t.v G = some w) (ha : DR G X a f) (hb : PE X b (tC w))
    (h1 : starEach [a, b] X.env = (false, eval a X.env) :: starEach [b] X.env) (h2 : starEach [b] X.env = (false, eval b X.env) :: starEach [] X.env) (h3 : (backTo pos (starEach [b] X.env)).any (·.1) = false) :
    DE G X (.Call (.Name "isinstance" p) [a, b] [] pos) (dIsi t f) :=
  PE.mono (pe_callB call_isi hg hm rfl (pa_cons ha (pa_cons hb pa_nil h2) h1) (by decide) (by decide) h1 h3) fun σ H Q hq => by
  obtain ⟨I0, H0, I, k, ρ, d, k', F, e, q⟩ := hq
  obtain ⟨x, k1, e1, e⟩ := M.bind_some e
  obtain ⟨e3, rfl⟩ := M.lift_some e
  refine ⟨I0, H0, I, k, ρ, x, _, F, e1, fun I1 H1 v s1 r1 => ?_⟩
  cases q1 : x.kl with
  | none => rw [q1] at e3; cases e3
  | some s =>
    rw [q1] at e3; cases e3
    obtain ⟨a1, g1, g2⟩ := tyx_of kit s1.w.inH r1 q1
    obtain ⟨u, g3, g4⟩ := klv_cls hw
    exact ⟨v, w, a1, u, _, rfl, g4, by rw [hK]; exact g2, by rw [hK]; exact kit.one s t a1 u g1 g3, q I1 H1 _ s1 (.bl _)⟩
def Kl.subs (t : Kl) : List Kl → Bool
  | [] => false
  | u :: us => t.sub u || t.subs us
def dIsiT (ts : List Kl) (f : Sem) : Sem := fun ρ => M.bind (f ρ) fun d => M.lift (d.kl.map fun s => .bl (s.subs ts))
def tVs (ws : List V) : TA := fun σ H Q => Q ws H
theorem pa_vs_nil : PA X [] (tVs []) := pa_nil
theorem pa_vs {e : Expr} {es : List Expr} {w : V} {ws : List V} (he : PE X e (tC w)) (ht : PA X es (tVs ws)) (hs : starEach (e :: es) X.env = (false, eval e X.env) :: starEach es X.env) : PA X (e :: es) (tVs (w :: ws)) := pa_cons he ht hs
theorem kitAny_of (kit : KitOk G) {s : Kl} {a1 : Value} (g1 : s.u G = some a1) : ∀ {ts : List Kl} {us : List Value}, ts.map (Kl.u G) = us.map some → PySem.W.kitAny G.K a1 us = some (s.subs ts)
  | [], [], _ => rfl
  | [], _ :: _, h => by cases h
  | _ :: _, [], h => by cases h
  | t :: ts, u :: us, h => by
    simp only [List.map_cons, List.cons.injEq] at h
    refine kitAny_cons (kit.one s t a1 u g1 h.1) (fun z => ?_) (fun z => ?_)
    · rw [kitAny_of kit g1 h.2]; simp [Kl.subs, z]
    · simp [Kl.subs, z]
theorem cls_all : ∀ {ts : List Kl} {ws : List V}, ts.map (Kl.v G) = ws.map some → ∃ us, ts.map (Kl.u G) = us.map some ∧ Paired ClsV ws us
  | [], [], _ => ⟨[], rfl, .nil⟩
  | [], _ :: _, h => by cases h
  | _ :: _, [], h => by cases h
  | t :: ts, w :: ws, h => by
    simp only [List.map_cons, List.cons.injEq] at h
    obtain ⟨u, g1, g2⟩ := klv_cls h.1
    obtain ⟨us, g3, g4⟩ := cls_all h.2
    exact ⟨u :: us, by simp [g1, g3], .cons g2 g4⟩
theorem de_isiT {ts : List Kl} {ws : List V} {bs : List Expr} {x1 : Nat} {f : Sem} (hK : X.K = G.K) (kit : KitOk G) (hg : Gl X "isinstance") (hm : X.mg "isinstance" = none) (hw : ts.map (Kl.v G) = ws.map some) (ha : DR G X a f) (hb : PA X bs (tVs ws))
    (hlen : ws.length ≤ 100)
    (h1 : starEach [a, .Tuple bs x1 pt] X.env = (false, eval a X.env) :: starEach [.Tuple bs x1 pt] X.env) (h2 : starEach [.Tuple bs x1 pt] X.env = (false, eval (.Tuple bs x1 pt) X.env) :: starEach [] X.env) (h3 : (backTo pos (starEach [.Tuple bs x1 pt] X.env)).any (·.1) = false) :
    DE G X (.Call (.Name "isinstance" p) [a, .Tuple bs x1 pt] [] pos) (dIsiT ts f) :=
  PE.mono (pe_callB call_isiT hg hm rfl (pa_cons ha (pa_cons (pe_tup hb) pa_nil h2) h1) (by decide) (by decide) h1 h3) fun σ H Q hq => by
  obtain ⟨I0, H0, I, k, ρ, d, k', F, e, q⟩ := hq
  obtain ⟨x, k1, e1, e⟩ := M.bind_some e
  obtain ⟨e3, rfl⟩ := M.lift_some e
  refine ⟨I0, H0, I, k, ρ, x, _, F, e1, fun I1 H1 v s1 r1 => ?_⟩
  cases q1 : x.kl with
  | none => rw [q1] at e3; cases e3
  | some s =>
    rw [q1] at e3; cases e3
    refine ⟨by rw [sizeLine_eq]; omega, fun tp hp => ?_⟩
    have s2 := Step.junk (o := .tup ws) s1.w hp
    obtain ⟨a1, g1, g2⟩ := tyx_of kit s2.w.inH (r1.step s2) q1
    obtain ⟨us, g3, g4⟩ := cls_all hw
    exact ⟨v, tp, ws, a1, us, _, rfl, upd_same, g4, by rw [hK]; exact g2, by rw [hK]; exact kitAny_of kit g1 g3, q I1 _ _ (s1.trans s2) (.bl _)⟩

-- ### == and != where the left one may be an instance 
/-- the own __eq__ of classes -/
abbrev Eqt := Cn → Option Fn
def EqOk (G : Gh) (X : Cx) (eqt : Eqt) : Prop := ∀ c F C, eqt c = some F → G.cls c = some C →
  ∃ (j : Nat) (f : Addr) (fd : FuncData) (ps : List Str), Meth X.K C "__eq__" f ∧ FnOk X.prog X.w X.K X.mg X.base CX0 j f fd ps (spM G 2 F) ∧ Room (j + 1) X.A ∧ Binds X.K fd ps []
def dEqD (eqt : Eqt) (neg : Bool) (x y : D) : M D := match x with
  | .ins c fs => (match eqt c with
    | some F => (match y.kl with
      | some _ => M.bind (F [.ins c fs, y]) fun r => (match r with
        | .bl b => M.pure (.bl (xor neg b))
        | _ => M.fail)
      | none => M.fail)
    | none => M.fail)
  | _ => M.lift (((cEqP x y).map (xor neg)).map D.bl)
def dEq (eqt : Eqt) (neg : Bool) (f g : Sem) : Sem := fun ρ => M.bind (f ρ) fun x => M.bind (g ρ) fun y => dEqD eqt neg x y
/-- == of an instance, by the heap -/
def rInsEq (G : Gh) (eqt : Eqt) (neg : Bool) : R2 := fun x y H Q => ∃ a C dx fs c F, x = .ref a ∧ H a = some (.ins C dx fs) ∧ G.cls c = some C ∧ eqt c = some F ∧ (∃ (t : Kl) (u : Value), t.u G = some u ∧ TyX G.K H y u) ∧
  spM G 2 F [x, y] H (fun v H' => ∃ b, v = .bl b ∧ Q (.bl (xor neg b)) H') E0
theorem op_insEq {eqt : Eqt} (hK : X.K = G.K) (kit : KitOk G) (hE : EqOk G X eqt) : OpR X (compareOp .Eq) (rInsEq G eqt false) := by
  intro pins s σ H x y v u Q I rx ry hq
  obtain ⟨a, C, dx, fs, c, F, rfl, ha, hC, hF, ⟨t, tu, ht, ty⟩, hsp⟩ := hq
  cases rx
  show wpAny (model X.prog X.w) X.A (richCompare .Eq (.ref a) u) (EP X pins σ Q) X.xe s
  obtain ⟨mA, J, _⟩ := ins_get I.hok ha
  obtain ⟨od, J, _⟩ := J.look
  obtain ⟨m, hFr⟩ := I.fr
  obtain ⟨j, f, fd, ps, hM, hok, hr, hb⟩ := hE c F C hF hC
  obtain ⟨P, Z, pz, hx⟩ := kit_of I ry (by rw [hK]; exact ty)
  refine PySem.W.cmp_K (op := .Eq) (tb := tu) hr.units0 hFr I.ok.mod.kin J (Z.ty _ _ I.kIn pz) (by rw [hK]; exact kit.nf c C t tu hC ht) hM.at_ hM.fn ?_
  refine thn (run_fn (Q := fun v H' => ∃ b, v = .bl b ∧ Q (.bl (xor false b)) H') (us := [.ref a, u]) (vs := [.ref a, y]) hok (hr.mono (Nat.le_succ _)) hb .nil (E := E0) pass0 I (.cons rfl (.cons ry .nil)) (by rw [List.append_nil]; exact hsp)) fun v s1 ⟨z, H1, I1, rz, b, e, q⟩ => ?_
  subst e
  cases rz
  exact ⟨.bl b, H1, I1, rfl, by rw [show (xor false b) = b from by cases b <;> rfl] at q; exact q⟩
theorem op_insNe {eqt : Eqt} (hK : X.K = G.K) (kit : KitOk G) (hE : EqOk G X eqt) : OpR X (compareOp .NotEq) (rInsEq G eqt true) := by
  intro pins s σ H x y v u Q I rx ry hq
  obtain ⟨a, C, dx, fs, c, F, rfl, ha, hC, hF, ⟨t, tu, ht, ty⟩, hsp⟩ := hq
  cases rx
  show wpAny (model X.prog X.w) X.A (richCompare .NotEq (.ref a) u) (EP X pins σ Q) X.xe s
  obtain ⟨mA, J, _⟩ := ins_get I.hok ha
  obtain ⟨od, J, _⟩ := J.look
  obtain ⟨m, hFr⟩ := I.fr
  obtain ⟨j, f, fd, ps, hM, hok, hr, hb⟩ := hE c F C hF hC
  obtain ⟨P, Z, pz, hx⟩ := kit_of I ry (by rw [hK]; exact ty)
  refine PySem.W.sky_ne (tb := tu) hr.in1.units0 hFr I.ok.mod.kin J (Z.ty _ _ I.kIn pz) (by rw [hK]; exact kit.nf c C t tu hC ht) (by rw [hK]; exact kit.ne c C hC) (by rw [hK]; exact kit.ob c C hC) hM.at_ hM.fn ?_
  have hl := hok.len _ _ _ _ hsp
  have r2 : Vals [V.ref a, y] [Value.ref a, u] := .cons rfl (.cons ry .nil)
  have hb2 := hb s [.ref a, u] I.kIn (by rw [List.append_nil, ← r2.length]; exact hl)
  rw [List.append_nil] at hb2
  refine wpAny_call (codeAny_mono (hok.run X.A.in1 X.stack s H ⟨[.ref a, u], []⟩ [.ref a, u] [.ref a, y] (fun v H' => ∃ b, v = .bl b ∧ Q (.bl (xor true b)) H') E0 hr.in1 I.env0.in1 hb2 r2 hsp) fun r s' hq => ?_)
  cases r with
  | error e => exact pass0 pins σ H s e s' I hq
  | ok fl =>
    cases fl with
    | ret w =>
      obtain ⟨z, H1, I1, rz, b, e, q⟩ := I.after hq
      subst e
      cases rz
      exact ⟨b, rfl, .bl _, H1, I1, rfl, by rw [show (xor true b) = !b from by cases b <;> rfl] at q; exact q⟩
    | next => exact False.elim hq
    | brk => exact False.elim hq
    | cont => exact False.elim hq
theorem OpR.or {f : Value → Value → PySem.Sem Value} {r1 r2 : R2} (h1 : OpR X f r1) (h2 : OpR X f r2) : OpR X f (fun x y H Q => r1 x y H Q ∨ r2 x y H Q) := by
  intro pins s σ H x y v u Q I rx ry hq
  rcases hq with hq | hq
  · exact h1 pins s σ H x y v u Q I rx ry hq
  · exact h2 pins s σ H x y v u Q I rx ry hq
theorem ins_of {I H : Hp} {v : V} {c : Cn} {fs : List D} (w : Sub I H) (h : RepB G I H v (.ins c fs)) : Rep G I v (.ins c fs) := by
  rcases h with h | ⟨a, rfl, h, _⟩
  · exact h
  · exact False.elim h
theorem rep_of {I H : Hp} {v : V} {d : D} (h : Rep G I v d) : RepB G I H v d := .inl h
theorem td_eq {eqt : Eqt} {neg : Bool} {f g : Sem} {rp : R2} (kit : KitOk G) (hp : RDB G rp (fun x y => (cEqP x y).map (xor neg))) {σ : List (Option V)} {H : Hp} {Q : VK} (hq : tD G (dEq eqt neg f g) σ H Q) :
    tOp (fun x y H Q => rInsEq G eqt neg x y H Q ∨ rp x y H Q) (tDR G f) (tD G g) σ H Q := by
  obtain ⟨I0, H0, I, k, ρ, d, k', F, e, q⟩ := hq
  obtain ⟨x, k1, e1, e⟩ := M.bind_some e
  obtain ⟨y, k2, e2, e⟩ := M.bind_some e
  refine ⟨I0, H0, I, k, ρ, x, k1, F, e1, fun I1 H1 v s1 r1 => ⟨I0, H0, I1, k1, ρ, y, k2, F.step s1, e2, fun I2 H2 u s2 r2 => ?_⟩⟩
  have plain : M.lift (((cEqP x y).map (xor neg)).map D.bl) k2 = some (d, k') → rInsEq G eqt neg v u H2 Q ∨ rp v u H2 Q := fun e => by
    obtain ⟨e3, rfl⟩ := M.lift_some e
    exact .inr (hp I2 H2 _ v u x y d Q s2.w (r1.step s2) (.inl r2) e3 fun I' H' w s r => q I' H' w ((s1.trans s2).trans s) r)
  cases x with
  | ins c fs =>
    have e' : (match eqt c with
    | some F => (match y.kl with
      | some _ => M.bind (F [.ins c fs, y]) fun r => (match r with
        | .bl b => M.pure (.bl (xor neg b))
        | _ => M.fail)
      | none => M.fail)
    | none => M.fail : M D) k2 = some (d, k') := e
    cases c1 : eqt c with
    | none => rw [c1] at e'; cases e'
    | some Fe =>
      rw [c1] at e'
      cases c2 : y.kl with
      | none => rw [c2] at e'; cases e'
      | some t =>
        rw [c2] at e'
        obtain ⟨r, k3, e4, e5⟩ := M.bind_some e'
        cases r with
        | bl b =>
          obtain ⟨rfl, rfl⟩ := M.pure_some e5
          obtain ⟨tu, ht, ty⟩ := tyx_of kit s2.w.inH (.inl r2) c2
          have rv := (ins_of s1.w.inH r1).sub s2.sub
          obtain ⟨a, C, dx, vs, rfl, h1, h2⟩ : ∃ a C dx vs, v = .ref a ∧ I2 a = some (.ins C dx (c.fields.zip vs)) ∧ G.cls c = some C := by
            cases rv with
            | ins h hc hl r => exact ⟨_, _, _, _, rfl, h, hc⟩
          refine .inl ⟨a, C, dx, _, c, Fe, rfl, s2.w.inH _ _ h1, h2, c1, ⟨t, tu, ht, ty⟩, rfl, G.da, G.me, I2, k2, _, .bl b, _, s2.w, .cons rv (.cons r2 .nil), e4, fun I3 H3 w s3 r3 => ?_⟩
          cases r3
          exact ⟨b, rfl, q I3 H3 _ ((s1.trans s2).trans s3) (.bl _)⟩
        | _ => cases e5
  | _ => exact plain e
theorem rd_eqX : RDB G (rEqD G.K) (fun x y => (cEqP x y).map (xor false)) := by
  have e : (fun x y => (cEqP x y).map (xor false)) = cEqP := by
    funext x y
    cases cEqP x y with
    | none => rfl
    | some b => cases b <;> rfl
  rw [e]; exact rd_eqP
theorem rd_neX : RDB G (rNeD G.K) (fun x y => (cEqP x y).map (xor true)) := by
  have e : (fun x y => (cEqP x y).map (xor true)) = cNeP := by
    funext x y
    simp only [cNeP]
    cases cEqP x y with
    | none => rfl
    | some b => cases b <;> rfl
  rw [e]; exact rd_neP
def dEqB (eqt : Eqt) (neg : Bool) (f g : Sem) : SemB := fun ρ => M.bind (dEq eqt neg f g ρ) fun d => match d with
  | .bl b => M.pure b
  | _ => M.fail
theorem td_eqB {eqt : Eqt} {neg : Bool} {f g : Sem} {rp : R2} (kit : KitOk G) (hp : RDB G rp (fun x y => (cEqP x y).map (xor neg))) {σ : List (Option V)} {H : Hp} {Q : Bool → Hp → Prop} (hq : tDB G (dEqB eqt neg f g) σ H Q) :
    tOp (fun x y H Q => rInsEq G eqt neg x y H Q ∨ rp x y H Q) (tDR G f) (tD G g) σ H (fun x H' => ∃ k, x = .bl k ∧ Q k H') := by
  obtain ⟨I0, H0, I, k, ρ, d, k', F, e, q⟩ := hq
  obtain ⟨x, k1, e1, e2⟩ := M.bind_some e
  cases x with
  | bl b =>
    obtain ⟨rfl, rfl⟩ := M.pure_some e2
    exact td_eq kit hp ⟨I0, H0, I, k, ρ, _, _, F, e1, fun I' H' v s r => by cases r; exact ⟨_, rfl, q I' H' s⟩⟩
  | _ => cases e2
section
variable {eqt : Eqt} {f g : Sem} (hK : X.K = G.K) (kit : KitOk G) (hE : EqOk G X eqt) (hu : X.A.units + 64 < cLine) (ha : DR G X a f) (hb : DE G X b g)
include hK kit hE hu ha hb
theorem de_eq (hm : behindInMarks .Eq b = false) : DE G X (.Compare a [.Eq] [b] pos) (dEq eqt false f g) :=
  PE.mono (pe_cmpR (OpR.or (op_insEq hK kit hE) (op_eqD hu)) ha hb hm) fun σ H Q hq => by rw [hK]; exact td_eq kit rd_eqX hq
theorem de_ne (hm : behindInMarks .NotEq b = false) : DE G X (.Compare a [.NotEq] [b] pos) (dEq eqt true f g) :=
  PE.mono (pe_cmpR (OpR.or (op_insNe hK kit hE) (op_neD hu)) ha hb hm) fun σ H Q hq => by rw [hK]; exact td_eq kit rd_neX hq
theorem dt_eq (hm : behindInMarks .Eq b = false) : DT G X (.Compare a [.Eq] [b] pos) (dEqB eqt false f g) :=
  PT.mono (pt_cmpR (OpR.or (op_insEq hK kit hE) (op_eqD hu)) ha hb hm) fun σ H Q hq => by rw [hK]; exact td_eqB kit rd_eqX hq
theorem dt_ne (hm : behindInMarks .NotEq b = false) : DT G X (.Compare a [.NotEq] [b] pos) (dEqB eqt true f g) :=
  PT.mono (pt_cmpR (OpR.or (op_insNe hK kit hE) (op_neD hu)) ha hb hm) fun σ H Q hq => by rw [hK]; exact td_eqB kit rd_neX hq
end
end
end Sky

end
section
-- SkyM: what the head tells of a program, by names; the bundle of a walk. 
namespace Sky
open PySem PySem.Spec PyProof.Rows L2
def Cn.name : Cn → Str
  | .Turn => "Turn" | .Book => "Book" | .Picture => "Picture" | .Only => "Only" | .Two => "Two" | .Nowhere => "Nowhere"
  | .Tells => "Tells" | .Mistaken => "Mistaken" | .Same => "Same" | .Differ => "Differ" | .Way => "Way" | .Ways => "Ways"
  | .NoWay => "NoWay" | .Apart => "Apart" | .Mixed => "Mixed" | .NoBodies => "NoBodies" | .Mended => "Mended" | .Stuck => "Stuck"
  | .View => "View" | .Whole => "Whole" | .Lacks => "Lacks" | .OnlyHour => "OnlyHour" | .Hours => "Hours"
  | .NoHour => "NoHour" | .Index => "Index" | .Desk => "Desk" | .Word => "Word" | .Reader => "Reader"
def allCn : List Cn := [.Turn, .Book, .Picture, .Only, .Two, .Nowhere, .Tells, .Mistaken, .Same, .Differ, .Way, .Ways, .NoWay, .Apart, .Mixed, .NoBodies, .Mended, .Stuck, .View, .Whole, .Lacks, .OnlyHour, .Hours, .NoHour, .Index, .Desk, .Word, .Reader]
theorem mem_allCn (c : Cn) : c ∈ allCn := by cases c <;> decide
def clsG (K : PySem.W.Frag) (c : Cn) : Option Addr := match PySem.W.nsIn K mainGlobals c.name with
  | some (some (.ref a)) => some a
  | _ => none
def basKl : List Kl := [.non, .bool, .int, .str, .tuple, .list, .dict]
def Kl.uK (K : PySem.W.Frag) : Kl → Option Value
  | .non => some (.type "NoneType") | .bool => some (.type "bool") | .int => some (.type "int") | .str => some (.type "str") | .tuple => some (.type "tuple") | .list => some (.type "list") | .dict => some (.type "dict")
  | .own c => (clsG K c).map .ref
/-- the classes of the program, as the written part has them -/
def clsChk (K : PySem.W.Frag) (all : List Kl) (c : Cn) : Bool := match clsG K c with
  | none => false
  | some C => PySem.W.plainGet K C Str.empty && (PySem.W.hasDictIn K C && (PySem.W.plainOver K C && (He.eqO (PySem.W.findIn K (.ref C) "__setattr__") (some (some (.builtin "object.__setattr__"))) &&
    ((c.fields.all fun f => He.eqO (PySem.W.findIn K (.ref C) f) (some none)) && (He.eqO (PySem.W.findIn K (.ref C) "__class__") (some (some (.builtin "object.__class__"))) &&
    (decide (PySem.W.mroIn K C (.type "object") = some true) && (He.eqO (PySem.W.findIn K (.ref C) "__ne__") (some (some (.builtin "object.__ne__"))) && (decide (PySem.W.subIn K (.ref C) (.type "object") = some true) &&
    all.all fun t => match t.uK K with
      | some a => PySem.W.notFirst K C a
      | none => true))))))))
def kitChk (cs : List Cn) (K : PySem.W.Frag) : Bool := (allCn.all fun c => decide (c ∈ cs) || (clsG K c).isNone) && ((cs.all fun c => clsChk K (basKl ++ cs.map Kl.own) c) &&
  (He.eqO (PySem.W.specialIn K (.builtin "object.__class__") "__get__") (some (some (.builtin "getset_descriptor.__get__"))) && (decide (PySem.W.takesIn K (.builtin "object.__class__") = some true) &&
  ((basKl ++ cs.map Kl.own).all fun t => (basKl ++ cs.map Kl.own).all fun u => match t.uK K, u.uK K with
    | some a, some b => decide (PySem.W.kitOne K a b = some (t.sub u))
    | _, _ => true))))
theorem uK_u {G : Gh} (h : G.cls = clsG G.K) (t : Kl) : t.u G = t.uK G.K := by cases t <;> first | rfl | (show (G.cls _).map Value.ref = _; rw [h]; rfl)
theorem kitOk_of {G : Gh} {cs : List Cn} (h : G.cls = clsG G.K) (c : kitChk cs G.K = true) : KitOk G := by
  obtain ⟨c1, c⟩ := He.ba c
  obtain ⟨c2, c⟩ := He.ba c
  obtain ⟨c3, c⟩ := He.ba c
  obtain ⟨c4, c5⟩ := He.ba c
  have mem : ∀ c C, G.cls c = some C → c ∈ cs := fun c C e => by
    have := List.all_eq_true.mp c1 c (mem_allCn c)
    rcases Bool.or_eq_true_iff.mp this with z | z
    · exact of_decide_eq_true z
    · rw [h] at e; rw [e] at z; cases z
  have memK : ∀ (t : Kl) (a : Value), t.u G = some a → t ∈ basKl ++ cs.map Kl.own := fun t a e => by
    cases t with
    | own c =>
      have e' : (G.cls c).map Value.ref = some a := e
      cases q : G.cls c with
      | none => rw [q] at e'; cases e'
      | some C => exact List.mem_append_right _ (List.mem_map_of_mem (mem c C q))
    | _ => exact List.mem_append_left _ (by decide)
  have cc : ∀ c C, G.cls c = some C → clsChk G.K (basKl ++ cs.map Kl.own) c = true := fun c C e => List.all_eq_true.mp c2 c (mem c C e)
  have cc' : ∀ c C, G.cls c = some C → (PySem.W.plainGet G.K C Str.empty && (PySem.W.hasDictIn G.K C && (PySem.W.plainOver G.K C && (He.eqO (PySem.W.findIn G.K (.ref C) "__setattr__") (some (some (.builtin "object.__setattr__"))) &&
    ((c.fields.all fun f => He.eqO (PySem.W.findIn G.K (.ref C) f) (some none)) && (He.eqO (PySem.W.findIn G.K (.ref C) "__class__") (some (some (.builtin "object.__class__"))) &&
    (decide (PySem.W.mroIn G.K C (.type "object") = some true) && (He.eqO (PySem.W.findIn G.K (.ref C) "__ne__") (some (some (.builtin "object.__ne__"))) && (decide (PySem.W.subIn G.K (.ref C) (.type "object") = some true) &&
    (basKl ++ cs.map Kl.own).all fun t => match t.uK G.K with
      | some a => PySem.W.notFirst G.K C a
      | none => true))))))))) = true := fun c C e => by
    have q := cc c C e
    unfold clsChk at q
    rw [h] at e
    rw [e] at q
    exact q
  refine ⟨fun t u a b e1 e2 => ?_, fun c C e => ?_, fun c C e => ?_, He.eqO_ok c3, of_decide_eq_true c4, fun c C e => ?_, fun c C t a e e1 => ?_, fun c C e => ?_, fun c C e => ?_⟩
  · have q := List.all_eq_true.mp (List.all_eq_true.mp c5 t (memK t a e1)) u (memK u b e2)
    rw [uK_u h] at e1 e2
    rw [e1, e2] at q
    exact of_decide_eq_true q
  · obtain ⟨q1, q⟩ := He.ba (cc' c C e)
    obtain ⟨q2, q⟩ := He.ba q
    obtain ⟨q3, q⟩ := He.ba q
    obtain ⟨q4, q⟩ := He.ba q
    obtain ⟨q5, q⟩ := He.ba q
    exact ⟨⟨q1, q2, q3, He.eqO_ok q4⟩, fun f hf => He.eqO_ok (List.all_eq_true.mp q5 f hf)⟩
  · obtain ⟨_, q⟩ := He.ba (cc' c C e)
    obtain ⟨_, q⟩ := He.ba q
    obtain ⟨_, q⟩ := He.ba q
    obtain ⟨_, q⟩ := He.ba q
    obtain ⟨_, q⟩ := He.ba q
    obtain ⟨q6, q⟩ := He.ba q
    exact He.eqO_ok q6
  · obtain ⟨_, q⟩ := He.ba (cc' c C e)
    obtain ⟨_, q⟩ := He.ba q
    obtain ⟨_, q⟩ := He.ba q
    obtain ⟨_, q⟩ := He.ba q
    obtain ⟨_, q⟩ := He.ba q
    obtain ⟨_, q⟩ := He.ba q
    obtain ⟨q7, q⟩ := He.ba q
    exact of_decide_eq_true q7
  · obtain ⟨_, q⟩ := He.ba (cc' c C e)
    obtain ⟨_, q⟩ := He.ba q
    obtain ⟨_, q⟩ := He.ba q
    obtain ⟨_, q⟩ := He.ba q
    obtain ⟨_, q⟩ := He.ba q
    obtain ⟨_, q⟩ := He.ba q
    obtain ⟨_, q⟩ := He.ba q
    obtain ⟨_, q⟩ := He.ba q
    obtain ⟨_, q⟩ := He.ba q
    have q2 := List.all_eq_true.mp q t (memK t a e1)
    rw [uK_u h] at e1
    rw [e1] at q2
    exact q2
  · obtain ⟨_, q⟩ := He.ba (cc' c C e)
    obtain ⟨_, q⟩ := He.ba q
    obtain ⟨_, q⟩ := He.ba q
    obtain ⟨_, q⟩ := He.ba q
    obtain ⟨_, q⟩ := He.ba q
    obtain ⟨_, q⟩ := He.ba q
    obtain ⟨_, q⟩ := He.ba q
    obtain ⟨q8, q⟩ := He.ba q
    exact He.eqO_ok q8
  · obtain ⟨_, q⟩ := He.ba (cc' c C e)
    obtain ⟨_, q⟩ := He.ba q
    obtain ⟨_, q⟩ := He.ba q
    obtain ⟨_, q⟩ := He.ba q
    obtain ⟨_, q⟩ := He.ba q
    obtain ⟨_, q⟩ := He.ba q
    obtain ⟨_, q⟩ := He.ba q
    obtain ⟨_, q⟩ := He.ba q
    obtain ⟨q9, q⟩ := He.ba q
    exact of_decide_eq_true q9

-- ### written tuples of texts 
def strV : Value → Option Str
  | .str x _ => some x
  | _ => none
def tupAt (K : PySem.W.Frag) (a : Addr) (zs : List Str) : Bool := match K.lookup a with
  | some o => decide (o.cls = .type "tuple") && (match o.data with
    | .seq its _ => Nat.ble its.size 1000 && decide (its.toList.map strV = zs.map some)
    | _ => false)
  | none => false
def tupChk (K : PySem.W.Frag) (x : Str) (zs : List Str) : Bool := match PySem.W.nsIn K mainGlobals x with
  | some (some (.ref a)) => tupAt K a zs
  | _ => true
def hands3 : List Str := ["plain", "mirrored", "either"]
/-- a class without an __init__ of its own -/
def mk0Chk (K : PySem.W.Frag) (c : Cn) : Bool := PySem.W.makesIn K (He.ga K c.name) && (He.eqO (PySem.W.findIn K (.ref (He.ga K c.name)) "__init__") (some (some (.builtin "object.__init__"))) && PySem.W.keepIn K (.ref (He.ga K c.name)))
def kitChk2 (cs : List Cn) (K : PySem.W.Frag) : Bool := (kitChk cs K && tupChk K "HANDS" hands3) && cs.all fun c => !c.fields.isEmpty || mk0Chk K c
theorem vals_strs : ∀ {us : List Value} {zs : List Str}, us.map strV = zs.map some → Vals (zs.map V.str) us
  | [], [], _ => .nil
  | [], _ :: _, h => by cases h
  | _ :: _, [], h => by cases h
  | u :: us, z :: zs, h => by
    simp only [List.map_cons, List.cons.injEq] at h
    refine .cons ?_ (vals_strs h.2)
    have h1 := h.1
    cases u <;> first | (cases h1; exact ⟨_, rfl⟩) | (cases h1)
theorem tupAt_sq {K : PySem.W.Frag} {a : Addr} {zs : List Str} (h : tupAt K a zs = true) (H : Hp) : SqT K H a (zs.map V.str) := by
  unfold tupAt at h
  split at h
  · rename_i o ho
    obtain ⟨h1, h2⟩ := He.ba h
    split at h2
    · rename_i its n hd
      obtain ⟨h3, h4⟩ := He.ba h2
      have := Nat.le_of_ble_eq_true h3
      exact .inr ⟨o, its, n, ho, of_decide_eq_true h1, hd, by rw [sizeLine_eq]; omega, vals_strs (of_decide_eq_true h4)⟩
    · cases h2
  · cases h
theorem repL_strs {G : Gh} {I : Hp} : ∀ {zs : List Str}, RepL G I (zs.map V.str) (zs.map D.str)
  | [] => .nil
  | _ :: _ => .cons (.str _) repL_strs

-- ### the Hook 
def obsC (cs : List Cn) (fa : List He.Fa) (fn : List He.DefD) (K : PySem.W.Frag) : He.AlD := ((kitChk2 cs K && (fa.all fun f => f.ok K)) && fn.all fun d => d.ok K, fn.map fun d => He.fnW K d.at_)
def SaysC (cs : List Cn) (fa : List He.Fa) (fn : List He.DefD) (K : PySem.W.Frag) : Prop := obsC cs fa fn K = He.valD fn
def obsCG (n : Nat) (cs : List Cn) (fa : List He.Fa) (fn : List He.DefD) (g : Addr → Option Obj) : He.AlD := obsC cs fa fn (He.frG g (He.asD g n))
def hookC (n : Nat) (cs : List Cn) (fa : List He.Fa) (fn : List He.DefD) : PySem.W.Hook where
  α := He.AlD
  obs := fun s => obsCG n cs fa fn s.heap.get?
  val := fun _ => He.valD fn
  says := fun _ h => ∃ K : PySem.W.Frag, K.In h ∧ SaysC cs fa fn K
  of := fun _ _ e => ⟨_, He.frG_in, e⟩
  keeps := fun _ _ _ ⟨K, hK, c⟩ k => ⟨K, PySem.W.Frag.In.keeps hK k, c⟩
theorem obsCG_eq {n : Nat} {cs : List Cn} {fa : List He.Fa} {fn : List He.DefD} {g : Addr → Option Obj} {s : Shared} (h : ∀ a, g a = s.heap.get? a) : obsCG n cs fa fn g = (hookC n cs fa fn).obs s := by
  have e : g = s.heap.get? := funext h
  rw [e] <;> rfl
section
variable {cs : List Cn} {fa : List He.Fa} {fn : List He.DefD} {K : PySem.W.Frag}
theorem SaysC.fact (c : SaysC cs fa fn K) (i : Nat) {f : He.Fa} (h : fa[i]? = some f) : f.ok K = true := by
  have c1 := (He.ba (He.ba (show ((kitChk2 cs K && (fa.all fun f => f.ok K)) && fn.all fun d => d.ok K) = true from congrArg (fun z : He.AlD => z.1) c)).1).2
  exact List.all_eq_true.mp c1 f (List.mem_of_getElem? h)
theorem SaysC.kit2 (c : SaysC cs fa fn K) : kitChk2 cs K = true :=
  (He.ba (He.ba (show ((kitChk2 cs K && (fa.all fun f => f.ok K)) && fn.all fun d => d.ok K) = true from congrArg (fun z : He.AlD => z.1) c)).1).1
theorem SaysC.kit (c : SaysC cs fa fn K) : kitChk cs K = true := (He.ba (He.ba c.kit2).1).1
theorem SaysC.mk0 (s : SaysC cs fa fn K) {c : Cn} (h : c ∈ cs) (hf : c.fields = []) : mk0Chk K c = true := by
  have q := List.all_eq_true.mp (He.ba s.kit2).2 c h
  rw [hf] at q
  exact q
theorem SaysC.hands (c : SaysC cs fa fn K) (h : (He.Fa.glo "HANDS").ok K = true) : tupAt K (He.ga K "HANDS") hands3 = true := by
  have q := (He.ba (He.ba c.kit2).1).2
  unfold tupChk at q
  rw [He.eqO_ok h] at q
  exact q
theorem SaysC.def_ (c : SaysC cs fa fn K) (i : Nat) {d : He.DefD} (h : fn[i]? = some d) : ∃ fd, FunD K d.name d.qual d.params d.body d.scope (d.dvs K) (d.kws K) (He.fAd K d.at_) fd := by
  have c2 := (He.ba (show ((kitChk2 cs K && (fa.all fun f => f.ok K)) && fn.all fun d => d.ok K) = true from congrArg (fun z : He.AlD => z.1) c)).2
  have e : fn.map (fun d => He.fnW K d.at_) = fn.map He.DefD.val := congrArg (fun z : He.AlD => z.2) c
  have e2 : (fn.map fun d => He.fnW K d.at_)[i]? = (fn.map He.DefD.val)[i]? := by rw [e]
  rw [List.getElem?_map, List.getElem?_map, h] at e2
  exact He.DefD.funD (Option.some.inj e2) (List.all_eq_true.mp c2 d (List.mem_of_getElem? h))
end

-- ### the bundle 
structure Bun (cs : List Cn) (fa : List He.Fa) (fn : List He.DefD) where
  P : Program
  w : World
  K : PySem.W.Frag
  mg : Str → Option Value
  base : Heap
  sa : Addr
  ns : List Int
  hIn : K.In base
  hNs : base.Ns mainGlobals mg
  say : SaysC cs fa fn K
section
variable {cs : List Cn} {fa : List He.Fa} {fn : List He.DefD} (B : Bun cs fa fn)
def Bun.G (da : Option Addr) (me : Option (Addr × Addr × Addr)) : Gh := ⟨B.K, clsG B.K, B.sa, B.ns, da, me⟩
abbrev Bun.X (N : List Str) (qual : Str) (scope : Scope) (f : Addr) (cd : Value) (A : Around) (outer : List PySem.Env) (s : Shared) (H : Hp) (E : XK) : Cx := cxB B.P B.w B.K B.mg B.base N qual scope f cd A outer s H E
/-- a context of this bundle, with room -/
structure Bun.In (X : Cx) (k : Nat) : Prop where
  prog : X.prog = B.P
  w : X.w = B.w
  K : X.K = B.K
  mg : X.mg = B.mg
  base : X.base = B.base
  room : Room k X.A
variable {B}
theorem Bun.kit {da : Option Addr} {me : Option (Addr × Addr × Addr)} : KitOk (B.G da me) := kitOk_of rfl B.say.kit
theorem Bun.glo (i : Nat) {x : Str} (h : fa[i]? = some (.glo x)) : B.mg x = some (.ref (He.ga B.K x)) := He.glo_ok B.hIn B.hNs (B.say.fact i h)
theorem Bun.free (i : Nat) {x : Str} (h : fa[i]? = some (.free x)) : B.mg x = none := He.free_ok B.hIn B.hNs (B.say.fact i h)
/-- a def keeps its promise -/
def Bun.Ok (B : Bun cs fa fn) (p : Str × Option Str) (k n : Nat) (F : Fn) : Prop := ∃ (fd : FuncData) (ps : List Str), PySem.W.keepIn B.K (.ref (He.fAd B.K p)) = true ∧ FnOk B.P B.w B.K B.mg B.base CX0 k (He.fAd B.K p) fd ps (spM (B.G none none) n F) ∧ Binds B.K fd ps []
def Bun.OkI (B : Bun cs fa fn) (c : Cn) (k n : Nat) (F : FnI) : Prop := ∃ (fd : FuncData) (ps : List Str), FnOk B.P B.w B.K B.mg B.base CX0 k (He.fAd B.K (c.name, some "__init__")) fd ps (spI (B.G none none) c n F) ∧ Binds B.K fd ps []
section
variable {k : Nat} {X : Cx} {da : Option Addr} {me : Option (Addr × Addr × Addr)}
theorem Bun.call {x : Str} {j n : Nat} {F : Fn} (h : B.Ok (x, none) j n F) (i : B.In X k) (hj : j ≤ k) (g : B.mg x = some (.ref (He.ga B.K x))) : CallOk (B.G da me) X x n F := by
  obtain ⟨fd, ps, h1, h2, h3⟩ := h
  obtain ⟨P, w, K, mg, base, A⟩ := X
  obtain ⟨rfl, rfl, rfl, rfl, rfl, hr⟩ := i
  exact ⟨j, _, fd, ps, g, h1, h2, hr.mono hj, h3⟩
theorem Bun.make {c : Cn} {x : Str} {j n : Nat} {F : FnI} (h : B.OkI c j n F) (i : B.In X k) (hj : j + 1 ≤ k) (hx : x = c.name) (g : B.mg x = some (.ref (He.ga B.K x))) (hm : (He.Fa.mkr x).ok B.K = true) (hg : (He.Fa.glo x).ok B.K = true) : MakeOk (B.G da me) X x c n F := by
  obtain ⟨fd, ps, h2, h3⟩ := h
  obtain ⟨P, w, K, mg, base, A⟩ := X
  obtain ⟨rfl, rfl, rfl, rfl, rfl, hr⟩ := i
  subst hx
  refine ⟨j, _, He.ga B.K c.name, fd, ps, g, ?_, He.mkr_ok hm, h2, hr.mono hj, h3⟩
  show clsG B.K c = _
  unfold clsG
  rw [He.eqO_ok hg]
theorem cls_ga {c : Cn} {C : Addr} (h : clsG B.K c = some C) : C = He.ga B.K c.name := by
  unfold clsG at h
  unfold He.ga
  split at h
  · cases h; rename_i e; rw [e]
  · cases h
theorem Bun.meth {c : Cn} {m : Str} {j n : Nat} {F : Fn} (h : B.Ok (c.name, some m) j (n + 1) F) (i : B.In X k) (hj : j ≤ k) (hf : m ∉ c.fields) (hm : (He.Fa.meth c.name m).ok B.K = true) : MethOk (B.G da me) X c m n F := by
  intro C hC
  obtain rfl := cls_ga hC
  have cl := (B.kit (da := da) (me := me)).cls c _ hC
  obtain ⟨fd, ps, h1, h2, h3⟩ := h
  obtain ⟨P, w, K, mg, base, A⟩ := X
  obtain ⟨rfl, rfl, rfl, rfl, rfl, hr⟩ := i
  exact ⟨j, _, fd, ps, cl.cl, He.meth_ok hm, h2, hr.mono hj, h3, hf⟩
def Bun.EqRow (B : Bun cs fa fn) (k : Nat) (eqt : Eqt) : Prop := ∀ c F, eqt c = some F → ∃ j, j + 1 ≤ k ∧ B.Ok (c.name, some "__eq__") j 2 F ∧ (He.Fa.meth c.name "__eq__").ok B.K = true
theorem Bun.eqOk {eqt : Eqt} (h : B.EqRow k eqt) (i : B.In X k) : EqOk (B.G da me) X eqt := by
  intro c F C e hC
  obtain rfl := cls_ga hC
  obtain ⟨j, hj, ⟨fd, ps, h1, h2, h3⟩, hm⟩ := h c F e
  obtain ⟨P, w, K, mg, base, A⟩ := X
  obtain ⟨rfl, rfl, rfl, rfl, rfl, hr⟩ := i
  exact ⟨j, _, fd, ps, He.meth_ok hm, h2, hr.mono hj, h3⟩
/-- THE RULE for a def of data -/
theorem Bun.ok {p : Str × Option Str} {x qual : Str} {params : Arguments} {body : List Stmt} {scope : Scope} {fd : FuncData} {N ps : List Str} {S : SemS} (F : FunD B.K x qual params body scope [] [] (He.fAd B.K p) fd) (sc : FnScope N ps scope)
    (hb : ∀ (kV doc pm : Value) (an : Option Addr) (cdv ct : Value) (us : List Value), us.length = ps.length → bindArgs (PySem.W.fnOf x qual params body scope .none kV doc pm an cdv ct) ⟨us, []⟩ = pure (ps.zip us))
    (h : ∀ da me cdv A outer s H E, B.In (B.X N qual scope (He.fAd B.K p) cdv A outer s H E) k → DSs (B.G da me) (B.X N qual scope (He.fAd B.K p) cdv A outer s H E) body S) : B.Ok p (k + 1) ps.length (runB N.length S) :=
  ⟨fd, ps, F.kp, fn_data F sc fun da me cdv A outer s H E hr => h da me cdv A outer s H E ⟨rfl, rfl, rfl, rfl, rfl, hr⟩, F.bindsN hb⟩
theorem Bun.okI {c : Cn} {n : Nat} {x qual : Str} {params : Arguments} {body : List Stmt} {scope : Scope} {fd : FuncData} {N ps : List Str} {S : SemS} (F : FunD B.K x qual params body scope [] [] (He.fAd B.K (c.name, some "__init__")) fd) (sc : FnScope N ps scope) (hn : n + 1 = ps.length)
    (hb : ∀ (kV doc pm : Value) (an : Option Addr) (cdv ct : Value) (us : List Value), us.length = ps.length → bindArgs (PySem.W.fnOf x qual params body scope .none kV doc pm an cdv ct) ⟨us, []⟩ = pure (ps.zip us))
    (h : ∀ da me cdv A outer s H E, B.In (B.X N qual scope (He.fAd B.K (c.name, some "__init__")) cdv A outer s H E) k → DSs (B.G da me) (B.X N qual scope (He.fAd B.K (c.name, some "__init__")) cdv A outer s H E) body S) : B.OkI c (k + 1) n (runI N.length c S) :=
  ⟨fd, ps, fn_init F sc hn fun da me cdv A outer s H E hr => h da me cdv A outer s H E ⟨rfl, rfl, rfl, rfl, rfl, hr⟩, F.bindsN hb⟩
end
end

-- ### comprehensions as a whole 
section
variable {G : Gh} {X : Cx} {pos : Pos}
theorem de_lc {elt tg iter : Expr} {ifs : List Expr} {scope : Scope} {own : List (Str × Nat)} {vs : List Nat} {it : SemL} {t : Tg} {c : SemB} {f : Sem} (hc : X.calm = true) (hN : X.N.Nodup) (hi : DI G X tg iter it) (ok : BlkOk X.N X.env.scope scope own)
    (hg : ∀ (s : Shared) (H : Hp) (C : Addr) (cl : List (Str × Addr)) (fp : List Addr), DG G (X.blk s H scope (compEnvC scope cl C X.env) fp) tg t) (ht : ∀ (s : Shared) (H : Hp) (C : Addr) (cl : List (Str × Addr)) (fp : List Addr), PTs (X.blk s H scope (compEnvC scope cl C X.env) fp) ifs (tDB G c))
    (he : ∀ (s : Shared) (H : Hp) (C : Addr) (cl : List (Str × Addr)) (fp : List Addr), DE G (X.blk s H scope (compEnvC scope cl C X.env) fp) elt f) (hs : ∀ i ∈ t.slots, i ∈ own.map (·.2)) (hf : ∀ x, foldedSetIterable iter X.env x = pure x) (hvs : own.map (·.2) = vs) :
    DE G X (.ListComp elt [⟨tg, iter, ifs, 0⟩] scope pos) (dLc vs it t c f) := by subst hvs; exact PE.mono (pe_lc hc hN hi ok hg ht he hf) fun _ _ _ h => td_lc hs h
theorem ds_setLc {i : Nat} {y : Str} {py spos : Pos} {elt tg iter : Expr} {ifs : List Expr} {scope : Scope} {own : List (Str × Nat)} {vs : List Nat} {it : SemL} {t : Tg} {c : SemB} {f : Sem} (hc : X.calm = true) (hN : X.N.Nodup) (hy : X.N[i]? = some y) (hyl : X.env.scope.names.lookup y = some .local)
    (hsw : swapsWith (.ListComp elt [⟨tg, iter, ifs, 0⟩] scope pos) (some (.Name y py)) spos.line X.env = pure true) (hi : DI G X tg iter it) (ok : BlkOk X.N X.env.scope scope own)
    (hg : ∀ (s : Shared) (H : Hp) (C : Addr) (cl : List (Str × Addr)) (fp : List Addr), DG G (X.blk s H scope (compEnvC scope cl C X.env) fp) tg t) (ht : ∀ (s : Shared) (H : Hp) (C : Addr) (cl : List (Str × Addr)) (fp : List Addr), PTs (X.blk s H scope (compEnvC scope cl C X.env) fp) ifs (tDB G c))
    (he : ∀ (s : Shared) (H : Hp) (C : Addr) (cl : List (Str × Addr)) (fp : List Addr), DE G (X.blk s H scope (compEnvC scope cl C X.env) fp) elt f) (hs : ∀ i ∈ t.slots, i ∈ own.map (·.2)) (hf : ∀ x, foldedSetIterable iter X.env x = pure x) (hvs : own.map (·.2) = vs) :
    DS G X (.Assign [.Name y py] (.ListComp elt [⟨tg, iter, ifs, 0⟩] scope pos) spos) (sAsg (dLc vs it t c f) (tgName i)) := by
  subst hvs
  exact ds_asgL (ps_setLc hc hN hy hyl hsw hi ok hg ht he hf) fun _ _ _ h => td_lc hs h
theorem dts_nil : PTs X [] (tDB G dTrue) := ⟨fun pins s σ H Q I h => pts_nil.run pins s σ H Q I (by
  obtain ⟨I0, H0, J, k, ρ, b, k', F, e, q⟩ := h
  cases e
  exact q J H (Step.refl F.w))⟩
theorem dts_one {e : Expr} {c : SemB} (h : DT G X e c) : PTs X [e] (tDB G c) := pts_one h
end
end Sky

end
section
-- SkyN: is, tuples by their order, fuels. 
namespace Sky
open PySem PySem.Spec PyProof.Rows L2
section
variable {G : Gh} {X : Cx} {pos : Pos}
def D.isNon : D → Option Bool
  | .non => some true | .scr => none | .drw => none | _ => some false
def cIs : D → D → Option Bool
  | .bl a, .bl b => some (decide (a = b))
  | x, .non => x.isNon
  | _, _ => none
def cIsNot (x y : D) : Option Bool := (cIs x y).map (!·)
def rIsD : R2 := fun x y H Q => rIsB x y H Q ∨ (y = .non ∧ Q (.bl (decide (x = .non))) H)
def rIsNotD : R2 := fun x y H Q => rNotB x y H Q ∨ (y = .non ∧ Q (.bl (!decide (x = .non))) H)
theorem op_isD : OpR X (compareOp .Is) rIsD := OpR.or op_isBl op_isN
theorem op_isNotD : OpR X (compareOp .IsNot) rIsNotD := OpR.or op_notBl op_notN
theorem isNon_rep {I H : Hp} {v : V} {d : D} {b : Bool} (h : RepB G I H v d) (e : d.isNon = some b) : decide (v = .non) = b := by
  rcases h with h | ⟨a, rfl, h, _⟩
  · cases h <;> cases e <;> rfl
  · cases d <;> first | exact False.elim h | (cases e; rfl)
theorem cIs_cases {d e : D} {b : Bool} (h : cIs d e = some b) : (∃ x y, d = .bl x ∧ e = .bl y ∧ b = decide (x = y)) ∨ (e = .non ∧ d.isNon = some b) := by
  cases e with
  | bl y =>
    cases d with
    | bl x => cases h; exact .inl ⟨x, y, rfl, rfl, rfl⟩
    | _ => cases h
  | non => cases d <;> first | exact .inr ⟨rfl, h⟩ | cases h
  | _ => cases d <;> cases h
theorem rd_is : RDB G rIsD cIs := by
  intro I H k x y d e z Q w hx hy hz q
  cases c : cIs d e with
  | none => simp only [c, Option.map] at hz; cases hz
  | some b =>
    simp only [c, Option.map] at hz; cases hz
    rcases cIs_cases c with ⟨p, p', rfl, rfl, rfl⟩ | ⟨rfl, c2⟩
    · obtain rfl := hx.bl; obtain rfl := hy.bl
      exact .inl ⟨_, _, rfl, rfl, q I H _ (Step.refl w) (.bl _)⟩
    · obtain rfl := hy.non
      refine .inr ⟨rfl, ?_⟩
      rw [isNon_rep hx c2]
      exact q I H _ (Step.refl w) (.bl _)
theorem rd_isNot : RDB G rIsNotD cIsNot := by
  intro I H k x y d e z Q w hx hy hz q
  cases c : cIs d e with
  | none => simp only [cIsNot, c, Option.map] at hz; cases hz
  | some b =>
    simp only [cIsNot, c, Option.map] at hz; cases hz
    rcases cIs_cases c with ⟨p, p', rfl, rfl, rfl⟩ | ⟨rfl, c2⟩
    · obtain rfl := hx.bl; obtain rfl := hy.bl
      exact .inl ⟨_, _, rfl, rfl, q I H _ (Step.refl w) (.bl _)⟩
    · obtain rfl := hy.non
      refine .inr ⟨rfl, ?_⟩
      rw [isNon_rep hx c2]
      exact q I H _ (Step.refl w) (.bl _)
/-- how often a loop may go: by the number in a slot -/
def fuelI (i : Nat) : Env → Nat := fun ρ => match ρ[i]? with
  | some (.val (.int n)) => n.natAbs + 2
  | _ => 0
def fuelN (n : Nat) : Env → Nat := fun _ => n
variable {cs : List Cn} {fa : List He.Fa} {fn : List He.DefD} {B : Bun cs fa fn} {k : Nat}
theorem Bun.In.blk (i : B.In X k) {s : Shared} {H : Hp} {scope : Scope} {env : PySem.Env} {fp : List Addr} : B.In (X.blk s H scope env fp) k := ⟨i.prog, i.w, i.K, i.mg, i.base, i.room⟩
theorem dss_fail {ss : List Stmt} : DSs G X ss sFail := PSs.mono pss_never fun D σ H hq => by
  obtain ⟨I0, H0, I, k, ρ, o, k', F, e, q⟩ := hq
  cases e
theorem de_int {x : Str} {j : Int} (h : ∃ t, X.mg x = some (.int j t)) (hg : Gl X x) (hd : (x == ("__debug__" : Str)) = false := by decide) : DE G X (.Name x pos) (dC (.int j)) := by
  obtain ⟨t, h⟩ := h
  exact de_const (pe_glob (v := .int j) hg h ⟨t, rfl⟩ hd) (fun _ => .int _)
theorem pe_tyB {x : Str} (T : String) (hg : Gl X x) (hm : X.mg x = none) (hv : bootBuiltins x = some (.type T)) (hn : x ≠ "__name__" := by decide) (hd : (x == ("__debug__" : Str)) = false := by decide) : PE X (.Name x pos) (tC (.ty T)) := pe_bltn hg hm hv rfl hn hd
theorem pe_own {x : Str} {C : Addr} (hg : Gl X x) (hm : X.mg x = some (.ref C)) (hd : (x == ("__debug__" : Str)) = false := by decide) : PE X (.Name x pos) (tC (.ref C)) := pe_glob hg hm rfl hd
theorem Bun.klv {c : Cn} {da : Option Addr} {me : Option (Addr × Addr × Addr)} (h : (He.Fa.glo c.name).ok B.K = true) : (Kl.own c).v (B.G da me) = some (.ref (He.ga B.K c.name)) := by
  show (clsG B.K c).map V.ref = _
  unfold clsG
  rw [He.eqO_ok h]; rfl
def eq0 : Eqt := fun _ => none
theorem Bun.eq0Ok : EqOk (B.G da me) X eq0 := fun c F C e => nomatch e
end
end Sky

end
section
-- SkyO: enumerate over lists and over tuples. 
namespace Sky
open PySem PySem.Spec PyProof.Rows L2 RZ
theorem draws_tuple {prog : Program} {w : World} {A : Around} {it l : Addr} {items : Array Value} (hh : A.handled = none) (ne : it ≠ l) :
    Draws prog w A it [it, l] items.size (fun i x => items[i]? = some x) (fun i h => h.IsTupleIter it l i ∧ h.IsTuple l items) where
  live := fun i h st => by obtain ⟨⟨o, ho, _⟩, _⟩ := st; exact ⟨o, ho⟩
  frame := fun i h h' st k => by
    obtain ⟨⟨o, ho, r⟩, ⟨ol, hl, r2⟩⟩ := st
    exact ⟨⟨o, k it (by simp) o ho, r⟩, ⟨ol, k l (by simp) ol hl, r2⟩⟩
  item := fun i s Q E hi st hQ => by
    obtain ⟨hit, hl⟩ := st
    refine nextOf_tuple_item hit hl (x := items[i]) (by simp [hi]) fun h' hit' sb => ?_
    obtain ⟨ol, ho, r⟩ := hl
    exact hQ items[i] h' s.toks (by simp [hi]) ⟨hit', ⟨ol, (sb.2 l (Ne.symm ne)).trans ho, r⟩⟩ sb
  done := fun s Q E st hE => by
    obtain ⟨hit, hl⟩ := st
    exact nextOf_tuple_end hh hit hl (by simp) hE
theorem meets_enumT_new (l : Addr) (items : Array Value) :
    Meets (Builtin.«enumerate.__new__» ⟨[.type "enumerate", .ref l], []⟩) (fun _ R s => s.heap.IsTuple l items ∧
      R (.ok (.ret (.ref (s.heap.push { cls := .type "tuple_iterator", data := .fields #[.ref l, .int 0 0] }).objs.size)))
        { s with heap := (s.heap.push { cls := .type "tuple_iterator", data := .fields #[.ref l, .int 0 0] }).push { cls := .type "enumerate", data := .fields #[.none, .bool false, .ref s.heap.objs.size, rawInt 0, .none, .none] } }) :=
  .of_wp fun prog w A R s h => by
    obtain ⟨hp, g, d, tk, os⟩ := s
    obtain ⟨hl, h⟩ := h
    have hsub := sub_enumerate
    have hL : Heap.IsTuple (Shared.heap ⟨hp, g, d, tk, os⟩) l items := hl
    wp_walk using wpAny_pyIter_tuple hL
    refine wpAny_stack_any fun st => wpAny_pure ?_
    split
    · rename_i c _ _ _ _ _
      cases (c == Value.type "enumerate")
      · wp_walk using wpAny_pyIter_tuple hL
        exact ⟨_, rfl, h⟩
      · wp_walk using wpAny_pyIter_tuple hL
        exact ⟨_, rfl, h⟩
    · wp_walk using wpAny_pyIter_tuple hL
      exact ⟨_, rfl, h⟩
section
variable {prog : Program} {w : World} {A : Around} {E : Value → Shared → Prop} {s : Shared}
theorem call_enumT {l : Addr} {items : Array Value} {Q : Value → Shared → Prop} (hL : s.heap.IsTuple l items)
    (h : ∀ h', IsEnum h' (s.heap.objs.size + 1) s.heap.objs.size 0 .none → h'.IsTupleIter s.heap.objs.size l 0 →
      (∀ b o, s.heap.get? b = some o → h'.get? b = some o) → Q (.ref (s.heap.objs.size + 1)) { s with heap := h' }) :
    wpAny (model prog w) A (call (.type "enumerate") [.ref l]) Q E s := by
  refine callType_new F.called_enumerate (by decide) (F.typeCall_enumerate_1 _) (F.newCall_enumerate_1 _) (fun obj => F.args_object_init_2 obj _) F.entry_enumerate_new (meets_enumT_new l items) ⟨hL, ?_⟩
  have hz : (s.heap.push { cls := .type "tuple_iterator", data := .fields #[.ref l, .int 0 0] }).objs.size = s.heap.objs.size + 1 := Heap.size_push ..
  show _ ∧ _
  rw [hz]
  have he := Heap.get?_push_size (s.heap.push { cls := .type "tuple_iterator", data := .fields #[.ref l, .int 0 0] })
    (o := { cls := .type "enumerate", data := .fields #[.none, .bool false, .ref s.heap.objs.size, rawInt 0, .none, .none] }) rfl
  rw [hz] at he
  exact ⟨⟨_, he, rfl⟩, h _ he ⟨_, Heap.get?_push_of_some _ (Heap.get?_push_size _ rfl), rfl, rfl⟩ fun b o x => Heap.get?_push_of_some _ (Heap.get?_push_of_some _ x)⟩
end
/-- the tuple at a, each item in a new pair -/
def IteT (K : PySem.W.Frag) (a : Addr) : It :=
  ⟨fun i H => ∃ (xs : List V) (x : V), SqT K H a xs ∧ xs[i]? = some x, fun i H v H' => ∃ T x, v = .ref T ∧ H T = none ∧ H' = upd H T (.tup [.int (i : Nat), x]) ∧ ∀ xs, SqT K H a xs → xs[i]? = some x, fun i H => ∃ xs : List V, SqT K H a xs ∧ xs.length ≤ i⟩
theorem turn_enumT {P : Program} {w : World} {K : PySem.W.Frag} {elts : List Expr} {kk : Nat} {tpos : Pos} {a e it : Addr} (hea : e ≠ a) (hia : it ≠ a) :
    Turn P w K (.Tuple elts kk tpos) (IteT K a) [e, it] e (fun i h => (∃ old, IsEnum h e it ((i : Nat) : Int) old) ∧ h.IsTupleIter it a i ∧ e ≠ it) where
  mem := by simp
  obj := fun i h st b hb => by
    obtain ⟨⟨old, he⟩, ⟨o, ho, hc, hd⟩, _⟩ := st
    have e' : b = e ∨ b = it := by simpa using hb
    rcases e' with z | z
    · rw [z]; exact ⟨_, he, fun v q => nomatch q⟩
    · rw [z]; exact ⟨o, ho, fun v q => by rw [hd] at q; cases q⟩
  keep := fun i h h' st k => let ⟨⟨old, he⟩, hi, hne⟩ := st; ⟨⟨old, k e (by simp) _ he⟩, hi.at fun o q => k it (by simp) o q, hne⟩
  item := by
    intro X hP hw hK hc i pins s σ H E I hf st hg
    subst hP hw hK
    obtain ⟨⟨old, he⟩, hit, hne⟩ := st
    obtain ⟨xs, x, hq, hx⟩ := hg
    obtain ⟨its, rv, p, hz⟩ := I.tuple hq
    obtain ⟨u, hu, ru⟩ := rv.get hx
    have hel : e < s.heap.objs.size := Heap.lt_size he
    have hil : it < s.heap.objs.size := by obtain ⟨_, q, _⟩ := hit; exact Heap.lt_size q
    have hi : i < its.length := (List.getElem?_eq_some_iff.mp hu).1
    refine wpAny_pyNext_enum_itemD (draws_tuple (items := its.toArray) (I.ok.hd hc) hia) he ⟨hit, p⟩ (by simpa using hi) hne (by simp [hne, hea]) fun v h' tk hv ho hit' hT hsz hk => ?_
    have hvu : v = u := by
      have hv' : its[i]? = some v := by simpa using hv
      rw [hu] at hv'; cases hv'; rfl
    subst hvu
    refine ⟨_, rfl, wpAny_letOwnedTupleGo_enum (s := { s with heap := h', toks := tk + 1 }) ho fun h'' he' sb => ?_⟩
    have hT2 : h''.get? s.heap.objs.size = some { cls := .type "tuple", data := .seq #[.int i tk, v] } := (sb.2 _ (Nat.ne_of_gt hel)).trans hT
    have new : ObjOk X.prog X.w (upd H s.heap.objs.size (.tup [.int (i : Nat), x])) h'' s.heap.objs.size (.tup [.int (i : Nat), x]) :=
      ⟨by show 2 ≤ sizeLine; decide, [.int i tk, v], .cons ⟨_, rfl⟩ (.cons ru .nil), ⟨_, hT2, rfl, _, rfl⟩⟩
    have I1 : Inv X pins σ (upd H s.heap.objs.size (.tup [.int (i : Nat), x])) { s with heap := h'', toks := tk + 1 } :=
      I.turnedNew (ch := [e, it]) (fun b ob hb q => (sb.2 b (fun z => hb (by simp [z]))).trans (hk b ob (fun z => hb (by simp [z])) (fun z => hb (by simp [z])) q)) hf (Nat.le_refl _) new
    refine ⟨.ref s.heap.objs.size, _, I1, rfl, ⟨_, x, rfl, I.hok.fresh (Nat.le_refl _), rfl, fun ys hy => by rw [I.tuple_inj hy hq]; exact hx⟩, ⟨⟨v, ?_⟩, hit'.1.at fun o q => (sb.2 it (Ne.symm hne)).trans q, hne⟩, fun b hb => ?_⟩
    · have e1 : ((i + 1 : Nat) : Int) = (i : Int) + 1 := by omega
      rw [e1]; exact he'
    · have hb' : b < s.heap.objs.size := by
        have e' : b = e ∨ b = it := by simpa using hb
        rcases e' with z | z
        · rw [z]; exact hel
        · rw [z]; exact hil
      rw [upd_ne (Nat.ne_of_lt hb')]
      exact (hf b hb).1
  done := by
    intro X hP hw hK hc i pins s σ H E I hf st hg
    subst hP hw hK
    obtain ⟨⟨old, he⟩, hit, hne⟩ := st
    obtain ⟨xs, hq, hx⟩ := hg
    obtain ⟨its, rv, p, hz⟩ := I.tuple hq
    obtain ⟨f0, f1, f2, f3, f4, f5⟩ := hf it (by simp)
    have hl := rv.length
    unfold pyNext
    have hT : s.TypeIs (.ref e) "enumerate" := ⟨_, he, rfl⟩
    refine wpAny_bind (wpAny_attempt (wpAny_callSpecial?_slot (name := Str.ofString "__next__") hT F.slot_enumerate_next
      (wpAny_call_entry F.slot_enumerate_next hT F.entry_enumerate_next ?_ (F.args_enumerate_next_1 _))))
    show wpAny _ _ (field (.ref e) 2 >>= _) _ _ _
    refine wpAny_bind (wpAny_field he rfl (x := .ref it) rfl ?_)
    refine wpAny_bind (nextOf_tuple_end (I.ok.hd hc) hit p (by simp; omega) fun h' x he' hx' => ?_)
    obtain ⟨o, ho, hcl⟩ := hx'
    refine wpAny_bind (wpAny_isInstance (T := "StopIteration") (b := true) ⟨o, ho, hcl⟩ isSubtype_stop ?_)
    exact wpAny_pure ⟨rfl, I.turned (t' := s.toks) (fun b o hb q => he' b o hb q) f0 f1 f3 f4 f5⟩
  self := fun A i s Q E st h => let ⟨⟨_, he⟩, _⟩ := st; wpAny_pyIter_enum he h
def iEnumA (K : PySem.W.Frag) (ta : TA) : TI := fun σ H R => ta σ H fun vs H1 => ∃ a xs, vs = [.ref a] ∧ ((SqL K H1 a xs ∧ R (Ite K a) H1) ∨ (SqT K H1 a xs ∧ R (IteT K a) H1))
theorem pi_enumA {X : Cx} {e : Expr} {ta : TA} {p pos tpos : Pos} {elts : List Expr} {kk : Nat} (hg : Gl X "enumerate") (hm : X.mg "enumerate" = none) (ha : PA X [e] ta) (hs : starEach [e] X.env = [(false, eval e X.env)]) :
    PI X (.Tuple elts kk tpos) (.Call (.Name "enumerate" p) [e] [] pos) (iEnumA X.K ta) := by
  refine ⟨fun pins s σ H R I h => ?_⟩
  refine Call_ (ld_blt I hg hm boot_enumerate (PyProof.Rows.callWith_type1 (thn (ha.run pos pins s σ H _ I h) fun us s1 ⟨vs, H1, I1, r1, q1⟩ => ?_) hs rfl))
  obtain ⟨a, xs, ex, q1⟩ := q1
  subst ex
  cases r1 with
  | cons r rr =>
    cases rr
    cases r
    have fresh2 : ∀ b, b ∈ [s1.heap.objs.size + 1, s1.heap.objs.size] → FpOk X pins H1 b := fun b hb => by
      have e' : b = s1.heap.objs.size + 1 ∨ b = s1.heap.objs.size := by simpa using hb
      have hle : s1.heap.objs.size ≤ b := by
        rcases e' with z | z
        · rw [z]; exact Nat.le_add_right _ _
        · rw [z]; exact Nat.le_refl _
      exact I1.fpOk hle (I1.hok.fresh hle)
    rcases q1 with ⟨hq, q⟩ | ⟨hq, q⟩
    · obtain ⟨its, rv, p', hz⟩ := I1.list hq
      refine call_enumerate_list p'.isList fun h' he hit hsz hk => wpAny_pyIter_enum he ?_
      have I2 : Inv X pins σ H1 { s1 with heap := h' } := I1.kept (t' := s1.toks) hk
      exact ⟨s1.heap.objs.size + 1, [s1.heap.objs.size + 1, s1.heap.objs.size], _, _, H1, rfl, I2, turn_enum a (s1.heap.objs.size + 1) s1.heap.objs.size, ⟨⟨.none, he⟩, hit, Nat.succ_ne_self _⟩, fresh2, q⟩
    · obtain ⟨its, rv, p', hz⟩ := I1.tuple hq
      obtain ⟨o1, ho1, _⟩ := id p'
      have hlt := Heap.lt_size ho1
      refine call_enumT (show s1.heap.IsTuple a its.toArray from p') fun h' he hit hk => wpAny_pyIter_enum he ?_
      have I2 : Inv X pins σ H1 { s1 with heap := h' } := I1.kept (t' := s1.toks) hk
      exact ⟨s1.heap.objs.size + 1, [s1.heap.objs.size + 1, s1.heap.objs.size], _, _, H1, rfl, I2, turn_enumT (Nat.ne_of_gt (Nat.lt_succ_of_lt hlt)) (Nat.ne_of_gt hlt), ⟨⟨.none, he⟩, hit, Nat.succ_ne_self _⟩, fresh2, q⟩
theorem walk_enumT {K : PySem.W.Frag} {a : Addr} {xs : List V} : Walk (IteT K a) xs.length (fun H => SqT K H a xs) (YPair (fun i => some (.int (i : Nat))) (fun i => xs[i]?)) := by
  refine ⟨fun i _ hi q => ⟨xs, xs[i], q, by simp [hi]⟩, fun _ q => ⟨xs, q, Nat.le_refl _⟩, fun i H v H' _ q y => ?_⟩
  obtain ⟨T, x, h1, h2, h3, h4⟩ := y
  exact ⟨T, .int (i : Nat), x, h1, h2, h3, rfl, h4 xs q⟩
def dEnumA (f : Sem) : SemL := fun ρ => M.bind (f ρ) fun x => match x with
  | .lst xs => M.pure (enumD xs)
  | .tup xs => M.pure (enumD xs)
  | _ => M.fail
section
variable {G : Gh} {X : Cx} {e : Expr} {p pos tpos : Pos} {elts : List Expr} {kk : Nat}
theorem enum_ix {n i : Nat} {u : V} (hi : i < n) (h : some (V.int (i : Nat)) = some u) : ((List.range n).map fun i : Nat => V.int (0 + i))[i]? = some u := by
  rw [List.getElem?_map, List.getElem?_range hi]
  cases h
  simp
theorem di_enumA {f : Sem} (hK : X.K = G.K) (hg : Gl X "enumerate") (hm : X.mg "enumerate" = none) (ha : DE G X e f) (hs : starEach [e] X.env = [(false, eval e X.env)]) :
    DI G X (.Tuple elts kk tpos) (.Call (.Name "enumerate" p) [e] [] pos) (dEnumA f) := PI.mono (pi_enumA hg hm (da_cons ha da_nil (by rw [hs]; rfl)) hs) fun σ H R hq => by
  obtain ⟨I0, H0, I, k, ρ, ds, k', F, e1, q⟩ := hq
  obtain ⟨x, k1, e2, e3⟩ := M.bind_some e1
  cases x <;> try cases e3
  · rename_i xs
    refine ⟨I0, H0, I, k, ρ, [.tup xs], k', F, by simp only [dCons, M.bind, e2, dNil, M.pure], fun I1 H1 vs s1 r1 => ?_⟩
    rw [hK]
    cases r1 with
    | cons h1 r1 =>
      cases r1
      cases h1 with
      | @tup a vs _ h1 g1 =>
        refine ⟨a, vs, rfl, .inr ⟨sqT_sub s1.w.inH h1, q I1 H1 _ s1 (yld_pair (n := vs.length) (xs := (List.range xs.length).map fun i : Nat => V.int (0 + i)) (by unfold rangeD; rw [List.length_map, List.length_range, g1.length, Nat.min_self]) (range_rep _ 0) g1
          ((walk_enumT (K := G.K) (a := a) (xs := vs)).mono (fun _ h => h) fun i H x H' hi _ ⟨T, u, z, e1, hT, e2, h1, h2⟩ => ⟨T, u, z, e1, hT, e2, enum_ix (by rw [← g1.length]; exact hi) h1, h2⟩) fun H I2 k2 s w => sqT_sub w.inH (sqT_sub s h1))⟩⟩
  · rename_i xs
    refine ⟨I0, H0, I, k, ρ, [.lst xs], k', F, by simp only [dCons, M.bind, e2, dNil, M.pure], fun I1 H1 vs s1 r1 => ?_⟩
    rw [hK]
    cases r1 with
    | cons h1 r1 =>
      cases r1
      cases h1 with
      | @lst a vs _ h1 g1 =>
        refine ⟨a, vs, rfl, .inl ⟨SqL.of (s1.w.inH _ _ h1), q I1 H1 _ s1 (yld_pair (n := vs.length) (xs := (List.range xs.length).map fun i : Nat => V.int (0 + i)) (by unfold rangeD; rw [List.length_map, List.length_range, g1.length, Nat.min_self]) (range_rep _ 0) g1
          ((walk_enum (K := G.K) (a := a) (xs := vs)).mono (fun _ h => h) fun i H x H' hi _ ⟨T, u, z, e1, hT, e2, h1, h2⟩ => ⟨T, u, z, e1, hT, e2, enum_ix (by rw [← g1.length]; exact hi) h1, h2⟩) fun H I2 k2 s w => SqL.of (w.inH _ _ (s _ _ h1)))⟩⟩
end
end Sky

end
section
-- SkyP: tuples by order, dicts read. 
namespace Sky
open PySem PySem.Spec PyProof.Rows L2
-- ### > of tuples 
def lexGt : List Int → List Int → Bool := fun ns ms => Ob.lexAt (fun j => decide (ns.getD j 0 = ms.getD j 0)) (fun j => decide (ms.getD j 0 < ns.getD j 0)) (decide (ns.length > ms.length)) 0 (min ns.length ms.length)
def rGtT (K : PySem.W.Frag) : R2 := fun x y H Q => ∃ (a b : Addr) (ns ms : List Int), x = .ref a ∧ y = .ref b ∧ SqT K H a (ns.map V.int) ∧ SqT K H b (ms.map V.int) ∧ Q (.bl (lexGt ns ms)) H
theorem op_gtT {X : Cx} (hu : X.A.units < cLine) : OpR X (compareOp .Gt) (rGtT X.K) := by
  intro pins s σ H x y v u Q I rx ry h
  obtain ⟨a, b, ns, ms, rfl, rfl, ha, hb, q⟩ := h
  cases rx
  cases ry
  obtain ⟨its, r1, p1, _⟩ := I.tuple ha
  obtain ⟨its2, r2, p2, _⟩ := I.tuple hb
  have i1 : IntsAre its ns := Vals.ints r1
  have i2 : IntsAre its2 ms := Vals.ints r2
  have e1 : its.toArray.size = ns.length := by rw [List.size_toArray]; exact i1.length
  have e2 : its2.toArray.size = ms.length := by rw [List.size_toArray]; exact i2.length
  have at1 : ∀ j (h1 : j < its.toArray.size), ∃ t, its.toArray[j] = .int (ns.getD j 0) t := fun j h1 => PyProof.Rows.IntsAre.int_at i1 _ _ (by simp at h1; simp [h1])
  have at2 : ∀ j (h1 : j < its2.toArray.size), ∃ t, its2.toArray[j] = .int (ms.getD j 0) t := fun j h1 => PyProof.Rows.IntsAre.int_at i2 _ _ (by simp at h1; simp [h1])
  have R := Ob.RcOp.tuples_gt (A := X.A) (s := s) (e := fun j => decide (ns.getD j 0 = ms.getD j 0)) (r := fun j => decide (ms.getD j 0 < ns.getD j 0)) p1 p2 hu (fun j h1 h2 => by
    obtain ⟨t, et⟩ := at1 j h1
    obtain ⟨t', et'⟩ := at2 j h2
    rw [et, et']
    have z : (ns.getD j 0 == ms.getD j 0) = decide (ns.getD j 0 = ms.getD j 0) := by
      by_cases q : ns.getD j 0 = ms.getD j 0
      · rw [decide_eq_true q]; exact beq_iff_eq.mpr q
      · rw [decide_eq_false q]; exact beq_eq_false_iff_ne.mpr q
    rw [← z]
    exact SeqAt.EqAt.int_int _ _ _ _) (fun j h1 h2 _ => by
    obtain ⟨t, et⟩ := at1 j h1
    obtain ⟨t', et'⟩ := at2 j h2
    rw [et, et']
    exact Ob.RcOp.gt_int _ _ _ _)
  rw [e1, e2] at R
  have z : wpAny (model X.prog X.w) X.A (compareOp .Gt (.ref a) (.ref b)) (EP X pins σ Q) X.xe s := R X.prog X.w X.xe (EP X pins σ Q) ⟨.bl _, H, I, rfl, q⟩
  exact z
section
variable {G : Gh} {X : Cx} {pos apos cpos : Pos}
def cGtA : D → D → Option Bool
  | .int i, .int j => some (decide (j < i))
  | .tup xs, .tup ys => (match intsD xs, intsD ys with
    | some ns, some ms => some (lexGt ns ms)
    | _, _ => none)
  | _, _ => none
def rGtA (K : PySem.W.Frag) : R2 := fun x y H Q => rI0 (fun i j => .bl (decide (j < i))) x y H Q ∨ rGtT K x y H Q
theorem op_gtA (hu : X.A.units < cLine) : OpR X (compareOp .Gt) (rGtA X.K) := OpR.or op_gt (op_gtT hu)
theorem rd_gtA : RDB G (rGtA G.K) cGtA := by
  intro I H k x y d e z Q w hx hy hz q
  cases c : cGtA d e with
  | none => simp only [c, Option.map] at hz; cases hz
  | some b =>
    simp only [c, Option.map] at hz; cases hz
    cases d <;> try cases c
    · cases e <;> try cases c
      obtain rfl := hx.int; obtain rfl := hy.int
      exact .inl ⟨_, _, rfl, rfl, q I H _ (Step.refl w) (.bl _)⟩
    · cases e <;> try cases c
      rename_i xs ys
      obtain ⟨a, vs, rfl, h1, r1⟩ := hx.tup w.inH
      obtain ⟨b', ws, rfl, h2, r2⟩ := hy.tup w.inH
      simp only [cGtA] at c
      cases q1 : intsD xs with
      | none => rw [q1] at c; cases c
      | some ns =>
        cases q2 : intsD ys with
        | none => rw [q1, q2] at c; cases c
        | some ms =>
          rw [q1, q2] at c; cases c
          have e1 := ints_rep r1 q1
          have e2 := ints_rep r2 q2
          subst e1 e2
          exact .inr ⟨a, b', ns, ms, rfl, rfl, h1, h2, q I H _ (Step.refl w) (.bl _)⟩

-- ### dicts 
def keyD : D → Option Key
  | .int i => some (.inl i)
  | .str x => some (.inr x)
  | _ => none
theorem key_rep {I H : Hp} {v : V} {d : D} {k : Key} (h : RepB G I H v d) (e : keyD d = some k) : v = kV k := by
  cases d <;> cases e
  · exact h.int
  · exact h.str
def valD {κ : Type} [DecidableEq κ] (ds : List (κ × D)) (k : κ) : Option D := (ds.find? fun p => decide (p.1 = k)).map (·.2)
def putD {κ : Type} [DecidableEq κ] (ds : List (κ × D)) (k : κ) (d : D) : List (κ × D) :=
  if (ds.any fun p => decide (p.1 = k)) = true then ds.map (fun p => if p.1 = k then (p.1, d) else p) else ds ++ [(k, d)]
/-- pairs of a dict stand for pairs of data -/
def KR {κ : Type} (G : Gh) (I : Hp) : List (κ × V) → List (κ × D) → Prop := Paired fun p q => p.1 = q.1 ∧ Rep G I p.2 q.2
theorem KR.of {κ : Type} {I : Hp} : ∀ {kvs : List (κ × V)} {ds : List (κ × D)}, kvs.map (·.1) = ds.map (·.1) → RepL G I (kvs.map (·.2)) (ds.map (·.2)) → KR G I kvs ds
  | [], [], _, _ => .nil
  | [], _ :: _, h, _ => by cases h
  | _ :: _, [], h, _ => by cases h
  | p :: ps, q :: qs, h, r => by
    simp only [List.map_cons, List.cons.injEq] at h
    cases r with
    | cons r1 r2 => exact .cons ⟨h.1, r1⟩ (KR.of h.2 r2)
theorem KR.keys {κ : Type} {I : Hp} {kvs : List (κ × V)} {ds : List (κ × D)} (h : KR G I kvs ds) : kvs.map (·.1) = ds.map (·.1) := by
  induction h with
  | nil => rfl
  | cons h t ih => simp only [List.map_cons, h.1, ih]
theorem KR.vals {κ : Type} {I : Hp} {kvs : List (κ × V)} {ds : List (κ × D)} (h : KR G I kvs ds) : RepL G I (kvs.map (·.2)) (ds.map (·.2)) := by
  induction h with
  | nil => exact .nil
  | cons h t ih => exact .cons h.2 ih
theorem KR.val {κ : Type} [DecidableEq κ] {I : Hp} {k : κ} {kvs : List (κ × V)} {ds : List (κ × D)} (h : KR G I kvs ds) : (∀ d, valD ds k = some d → ∃ v, valV kvs k = some v ∧ Rep G I v d) ∧ (valD ds k = none → valV kvs k = none) := by
  induction h with
  | nil => exact ⟨fun d e => by simp [valD] at e, fun _ => rfl⟩
  | @cons p q ps qs h t ih =>
    unfold valD valV at *
    by_cases c : q.1 = k
    · have c' : p.1 = k := h.1.trans c
      simp only [List.find?_cons, c, c', decide_true, Option.map_some]
      exact ⟨fun d e => by cases e; exact ⟨_, rfl, h.2⟩, fun e => by cases e⟩
    · have c' : ¬ p.1 = k := fun z => c (h.1.symm.trans z)
      simp only [List.find?_cons, c, c', decide_false]
      exact ih
theorem KR.any {κ : Type} [DecidableEq κ] {I : Hp} {k : κ} {kvs : List (κ × V)} {ds : List (κ × D)} (h : KR G I kvs ds) : (kvs.any fun p => decide (p.1 = k)) = ds.any fun p => decide (p.1 = k) := by
  induction h with
  | nil => rfl
  | cons h t ih => simp only [List.any_cons, h.1, ih]
theorem KR.map {κ : Type} [DecidableEq κ] {I : Hp} {k : κ} {v : V} {d : D} (hv : Rep G I v d) {kvs : List (κ × V)} {ds : List (κ × D)} (h : KR G I kvs ds) : KR G I (kvs.map fun p => if p.1 = k then (p.1, v) else p) (ds.map fun p => if p.1 = k then (p.1, d) else p) := by
  induction h with
  | nil => exact .nil
  | @cons p q ps qs h t ih =>
    refine .cons ?_ ih
    by_cases c : q.1 = k
    · have c' : p.1 = k := h.1.trans c
      simp only [c, c', if_true]
      exact ⟨trivial, hv⟩
    · have c' : ¬ p.1 = k := fun z => c (h.1.symm.trans z)
      simp only [c, c', if_false]
      exact h
theorem KR.app {κ : Type} {I : Hp} {kvs ms : List (κ × V)} {ds es : List (κ × D)} (h : KR G I kvs ds) (h2 : KR G I ms es) : KR G I (kvs ++ ms) (ds ++ es) := by
  induction h with
  | nil => exact h2
  | cons h t ih => exact .cons h ih
theorem KR.put {κ : Type} [DecidableEq κ] {I : Hp} {k : κ} {v : V} {d : D} (hv : Rep G I v d) {kvs : List (κ × V)} {ds : List (κ × D)} (h : KR G I kvs ds) : KR G I (putK kvs k v) (putD ds k d) := by
  unfold putK putD
  rw [h.any]
  split
  · exact h.map hv
  · exact h.app (.cons ⟨rfl, hv⟩ .nil)
theorem KR.sub {κ : Type} {I I' : Hp} (s : Sub I I') {kvs : List (κ × V)} {ds : List (κ × D)} (h : KR G I kvs ds) : KR G I' kvs ds := by
  induction h with
  | nil => exact .nil
  | cons h t ih => exact .cons ⟨h.1, h.2.sub s⟩ ih
def mergeD (acc : List (Key × D)) (more : List (Key × D)) : List (Key × D) := more.foldl (fun acc p => putD acc p.1 p.2) acc
theorem KR.merge {I : Hp} {more : List (Key × V)} {ds : List (Key × D)} (h : KR G I more ds) : ∀ {kvs : List (Key × V)} {es : List (Key × D)}, KR G I kvs es → KR G I (mergeK kvs more) (mergeD es ds) := by
  unfold mergeK mergeD
  induction h with
  | nil => intro kvs es q; exact q
  | @cons p q ps qs h t ih =>
    intro kvs es r
    simp only [List.foldl_cons]
    refine ih ?_
    rw [h.1]
    exact KR.put h.2 r
def pairsD : List D → Option (List (Key × D))
  | [] => some []
  | .tup [k, v] :: r => (match keyD k, pairsD r with
    | some k, some r => some ((k, v) :: r)
    | _, _ => none)
  | _ => none
def bDict : List D → Option D
  | [.lst xs] => (pairsD xs).map fun kvs => .dK (mergeD [] kvs)
  | _ => none
theorem pairs_rep {I H : Hp} (w : Sub I H) : ∀ {vs : List V} {ds : List D} {ps : List (Key × D)}, RepL G I vs ds → pairsD ds = some ps → ∃ (as : List Addr) (kvs : List (Key × V)), vs = as.map V.ref ∧ Paired (fun p kv => SqT G.K H p [kV kv.1, kv.2]) as kvs ∧ KR G I kvs ps
  | _, _, _, .nil, e => by cases e; exact ⟨[], [], rfl, .nil, .nil⟩
  | _, _, ps, .cons (v := v) (d := d) (ds := ds) h t, e => by
    unfold pairsD at e
    split at e
    · rename_i z; cases z
    · rename_i k v' r z
      cases z
      split at e
      · rename_i k1 r1 e1 e2
        cases e
        obtain ⟨as, kvs, rfl, p1, p2⟩ := pairs_rep w t e2
        cases h with
        | @tup a ws _ h r =>
          cases r with
          | cons ra r =>
            cases r with
            | cons rb r =>
              cases r
              have := key_rep (H := H) (.inl ra) e1
              subst this
              exact ⟨a :: as, (k1, _) :: kvs, rfl, .cons (sqT_sub w h) p1, .cons ⟨rfl, rb⟩ p2⟩
      · cases e
    · cases e
theorem bDict_ok : RDA G (fun xs H Q => ∃ (a : Addr) (ps : List Addr) (kvs : List (Key × V)), xs = [.ref a] ∧ SqL G.K H a (ps.map V.ref) ∧ Paired (fun p kv => SqT G.K H p [kV kv.1, kv.2]) ps kvs ∧
    ∀ p, H p = none → Q (.ref p) (upd H p (.dK (mergeK [] kvs)))) bDict := by
  intro I H k vs ds z Q w hp hz q
  unfold bDict at hz
  split at hz
  · rename_i xs
    obtain ⟨v, rfl, hx⟩ := paired1 hp
    cases e : pairsD xs with
    | none => rw [e] at hz; cases hz
    | some ps =>
      rw [e] at hz; cases hz
      obtain ⟨a, us, rfl, h1, r1⟩ := hx.lst w.inH
      obtain ⟨as, kvs, rfl, p1, p2⟩ := pairs_rep w.inH r1 e
      refine ⟨a, as, kvs, rfl, SqL.of h1, p1, fun p hp => ?_⟩
      have s1 := Step.laid (o := .dK (mergeK [] kvs)) w hp
      have r := (KR.merge p2 (kvs := []) (es := []) .nil).sub s1.sub
      exact q _ _ _ s1 (.dK (.inl upd_same) r.keys r.vals)
  · cases hz
def dGet1 (f g : Sem) : Sem := fun ρ => M.bind (f ρ) fun x => M.bind (g ρ) fun y => match x with
  | .dK kvs => (match keyD y with
    | some k => M.pure ((valD kvs k).getD .non)
    | none => M.fail)
  | _ => M.fail
theorem dict_rep {I H : Hp} {v : V} {ds : List (Key × D)} (w : Sub I H) (h : RepB G I H v (.dK ds)) : ∃ a kvs, v = .ref a ∧ Rd H a (.dK kvs) ∧ KR G I kvs ds := by
  rcases h with h | ⟨a, rfl, h, _⟩
  · cases h with
    | dK h hk r => exact ⟨_, _, rfl, Rd.sub w h, KR.of hk r⟩
  · obtain ⟨kvs, h, hk, r⟩ := h
    exact ⟨a, kvs, rfl, .inl h, KR.of hk r⟩
theorem de_get1 {o e : Expr} {f g : Sem} (hu : X.A.units + 64 < cLine) (ho : DR G X o f) (he : DE G X e g) (m : M1 X o "get" apos e cpos) : DE G X (.Call (.Attribute o "get" apos) [e] [] cpos) (dGet1 f g) :=
  PE.mono (pe_dget1 (Nat.lt_of_le_of_lt (Nat.add_le_add_left (by decide) _) hu) ho he m) fun σ H Q hq => by
  obtain ⟨I0, H0, I, k, ρ, d, k', F, e, q⟩ := hq
  obtain ⟨x, k1, e1, e⟩ := M.bind_some e
  obtain ⟨y, k2, e2, e⟩ := M.bind_some e
  refine ⟨I0, H0, I, k, ρ, x, k1, F, e1, fun I1 H1 v s1 r1 => ?_⟩
  cases x <;> try cases e
  rename_i kvs e0
  obtain ⟨a, ks, rfl, hr, _⟩ := dict_rep s1.w.inH r1
  refine ⟨a, rfl, .inl ⟨_, hr⟩, I0, H0, I1, k1, ρ, y, k2, F.step s1, e2, fun I2 H2 u s2 r2 => ?_⟩
  simp only at e
  cases c : keyD y with
  | none => rw [c] at e; cases e
  | some kk =>
    rw [c] at e
    obtain ⟨rfl, rfl⟩ := M.pure_some e
    obtain ⟨a', ks', ea, hr', kr⟩ := dict_rep s2.w.inH (r1.step s2)
    cases ea
    have hk := key_rep (H := H2) (.inl r2) c
    subst hk
    refine ⟨valV ks' kk, .inl ⟨ks', kk, hr', rfl, rfl⟩, ?_⟩
    cases cv : valD kvs kk with
    | none =>
      rw [cv] at q
      rw [(kr.val (k := kk)).2 cv]
      exact q I2 H2 _ (s1.trans s2) .non
    | some d' =>
      obtain ⟨v', h1, h2⟩ := (kr.val (k := kk)).1 d' cv
      rw [cv] at q
      rw [h1]
      exact q I2 H2 _ (s1.trans s2) h2
end
end Sky

end
section
-- SkyQ: the script, the draw. 
namespace Sky
open PySem PySem.Spec PyProof.Rows L2
section
variable {G : Gh} {X : Cx} {pos apos cpos p : Pos} {ns : List Int}
-- ### the script 
def dLenS (ns : List Int) (f : Sem) : Sem := fun ρ => M.bind (f ρ) fun x => match x with
  | .scr => M.pure (.int ns.length)
  | _ => M.fail
theorem de_lenS {e : Expr} {f : Sem} (hK : X.K = G.K) (hns : G.ns = ns) (hg : Gl X "len") (hm : X.mg "len" = none) (ha : DE G X e f) (h1 : starEach [e] X.env = (false, eval e X.env) :: starEach [] X.env) (h2 : (backTo pos (starEach [] X.env)).any (·.1) = false) :
    DE G X (.Call (.Name "len" p) [e] [] pos) (dLenS ns f) := PE.mono (pe_callB call_len hg hm boot_len (pa_cons ha pa_nil h1) (by decide) (by decide) h1 h2) fun σ H Q hq => by
  obtain ⟨I0, H0, I, k, ρ, d, k', F, e, q⟩ := hq
  obtain ⟨x, k1, e1, e2⟩ := M.bind_some e
  refine ⟨I0, H0, I, k, ρ, x, k1, F, e1, fun I1 H1 v s1 r1 => ?_⟩
  cases x <;> try cases e2
  cases r1
  rw [hK]
  refine ⟨_, ns.length, rfl, .inl ⟨_, s1.w.scr.sq, ?_⟩, q I1 H1 _ s1 (.int _)⟩
  rw [List.length_map, hns]
def dIxS (ns : List Int) (f g : Sem) : Sem := fun ρ => M.bind (f ρ) fun x => M.bind (g ρ) fun y => match x, y with
  | .scr, .int i => (match atI ns i with
    | some j => M.pure (.int j)
    | none => M.fail)
  | _, _ => M.fail
theorem atI_map {α β : Type} {f : α → β} {xs : List α} {i : Int} {v : α} (h : atI xs i = some v) : atI (xs.map f) i = some (f v) := by
  unfold atI at *
  rw [List.length_map]
  cases e : ixN xs.length i with
  | none => rw [e] at h; cases h
  | some j =>
    rw [e] at h
    have h' : xs[j]? = some v := h
    show (xs.map f)[j]? = some (f v)
    rw [List.getElem?_map, h']; rfl
theorem de_ixS {a b : Expr} {f g : Sem} (hK : X.K = G.K) (hns : G.ns = ns) (ha : DE G X a f) (hb : DE G X b g) (hs : PlainIx b) : DE G X (.Subscript a b pos) (dIxS ns f g) := PE.mono (pe_ix ix_seq ha hb hs) fun σ H Q hq => by
  obtain ⟨I0, H0, I, k, ρ, d, k', F, e, q⟩ := hq
  obtain ⟨x, k1, e1, e2⟩ := M.bind_some e
  obtain ⟨y, k2, e3, e4⟩ := M.bind_some e2
  refine ⟨I0, H0, I, k, ρ, x, k1, F, e1, fun I1 H1 v s1 r1 => ⟨I0, H0, I1, k1, ρ, y, k2, F.step s1, e3, fun I2 H2 u s2 r2 => ?_⟩⟩
  cases x <;> try cases e4
  cases y <;> try cases e4
  rename_i i
  simp only at e4
  cases c : atI ns i with
  | none => rw [c] at e4; cases e4
  | some j =>
    rw [c] at e4
    obtain ⟨rfl, rfl⟩ := M.pure_some e4
    cases r1
    cases r2
    rw [hK]
    refine .inl ⟨_, _, i, .int j, rfl, rfl, s2.w.scr.sq, ?_, q I2 H2 _ (s1.trans s2) (.int _)⟩
    rw [hns]
    exact atI_map c
/-- script != [] -/
def dNeS (ns : List Int) (f : Sem) : SemB := fun ρ => M.bind (f ρ) fun x => match x with
  | .scr => M.pure (!ns.isEmpty)
  | _ => M.fail
theorem dp_ints {K : PySem.W.Frag} {H : Hp} : ∀ ns : List Int, DpAll K H (ns.map V.int) (ns.map PyData.int)
  | [] => .nil
  | n :: ns => .cons (.int n) (dp_ints ns)
theorem shaped_ints (ns : List Int) : SeqAt.shaped (.list (ns.map PyData.int)) = true := by
  have h1 : ∀ ns : List Int, PyData.canLayAll0 (ns.map PyData.int) = true := fun ns => by
    induction ns with
    | nil => rfl
    | cons n ns ih => show (PyData.canLay0 (.int n) && PyData.canLayAll0 (ns.map PyData.int)) = true; rw [ih]; rfl
  have h2 : ∀ ns : List Int, PyData.depthAll (ns.map PyData.int) = 0 := fun ns => by
    induction ns with
    | nil => rfl
    | cons n ns ih => show max (PyData.depth (.int n)) (PyData.depthAll (ns.map PyData.int)) = 0; rw [ih]; rfl
  have h3 : PyData.depth (.list (ns.map PyData.int)) = 1 := by show PyData.depthAll (ns.map PyData.int) + 1 = 1; rw [h2]
  show (PyData.canLay0 (.list (ns.map PyData.int)) && decide (PyData.depth (.list (ns.map PyData.int)) ≤ 64)) = true
  rw [h3, show PyData.canLay0 (.list (ns.map PyData.int)) = true from h1 ns]; rfl
theorem dt_neS {e : Expr} {f : Sem} {pl : Pos} (hK : X.K = G.K) (hns : G.ns = ns) (hu : X.A.units + 64 < cLine) (ha : DE G X e f) (hm : behindInMarks .NotEq (.List [] pl) = false) : DT G X (.Compare e [.NotEq] [.List [] pl] pos) (dNeS ns f) :=
  PT.mono (pt_cmpR (op_neD hu) ha (pe_lst pa_nil) hm) fun σ H Q hq => by
  obtain ⟨I0, H0, I, k, ρ, d, k', F, e, q⟩ := hq
  obtain ⟨x, k1, e1, e2⟩ := M.bind_some e
  refine ⟨I0, H0, I, k, ρ, x, k1, F, e1, fun I1 H1 v s1 r1 => ⟨Nat.zero_le _, fun p hp => ?_⟩⟩
  cases x <;> try cases e2
  cases r1
  rw [hK]
  have s2 := Step.junk (o := .lst []) s1.w hp
  refine ⟨_, _, .lst s2.w.scr.sq (dp_ints G.ns), .lst (.inl (.inl upd_same)) .nil, shaped_ints _, rfl, !G.ns.isEmpty, ?_, by rw [hns]; exact q I1 _ (s1.trans s2)⟩
  cases G.ns <;> rfl
def dPow (a b : Int) : Sem := dC (.int (a ^ b.toNat))
theorem de_pow {a b : Int} {j1 j2 : Nat} {p1 p2 : Pos} (h : CPow a b) : DE G X (.BinOp (.Constant (.int a) j1 p1) .Pow (.Constant (.int b) j2 p2) pos) (dPow a b) := PE.mono (pe_op op_pow pe_int pe_int) fun σ H Q hq => by
  obtain ⟨I0, H0, I, k, ρ, d, k', F, e, q⟩ := hq
  cases e
  exact ⟨a, b, rfl, rfl, h, q I H _ (Step.refl F.w) (.int _)⟩

-- ### the draw: a list of the script and of how many were drawn 
def dDrw0 (f : Sem) : Sem := fun ρ => M.bind (f ρ) fun x => match x with
  | .drw => M.pure .scr
  | _ => M.fail
def dDrw1 (f : Sem) : Sem := fun ρ => M.bind (f ρ) fun x => match x with
  | .drw => fun k => some (.int k, k)
  | _ => M.fail
theorem de_drw0 {a : Expr} {f : Sem} {j : Nat} {cp : Pos} (hK : X.K = G.K) (ha : DE G X a f) (hs : PlainIx (.Constant (.int 0) j cp)) : DE G X (.Subscript a (.Constant (.int 0) j cp) pos) (dDrw0 f) := PE.mono (pe_ix ix_seq ha pe_int hs) fun σ H Q hq => by
  obtain ⟨I0, H0, I, k, ρ, d, k', F, e, q⟩ := hq
  obtain ⟨x, k1, e1, e2⟩ := M.bind_some e
  refine ⟨I0, H0, I, k, ρ, x, k1, F, e1, fun I1 H1 v s1 r1 => ?_⟩
  cases x <;> try cases e2
  cases r1 with
  | drw h =>
    obtain ⟨h1, h2, h3⟩ := s1.w.drw _ h
    exact .inl ⟨_, _, 0, .ref G.sa, rfl, rfl, .inl (.inl h3), rfl, q I1 H1 _ s1 .scr⟩
theorem de_drw1 {a : Expr} {f : Sem} {j : Nat} {cp : Pos} (hK : X.K = G.K) (ha : DE G X a f) (hs : PlainIx (.Constant (.int 1) j cp)) : DE G X (.Subscript a (.Constant (.int 1) j cp) pos) (dDrw1 f) := PE.mono (pe_ix ix_seq ha pe_int hs) fun σ H Q hq => by
  obtain ⟨I0, H0, I, k, ρ, d, k', F, e, q⟩ := hq
  obtain ⟨x, k1, e1, e2⟩ := M.bind_some e
  refine ⟨I0, H0, I, k, ρ, x, k1, F, e1, fun I1 H1 v s1 r1 => ?_⟩
  cases x <;> try cases e2
  cases r1 with
  | drw h =>
    obtain ⟨h1, h2, h3⟩ := s1.w.drw _ h
    exact .inl ⟨_, _, 1, .int _, rfl, rfl, .inl (.inl h3), rfl, q I1 H1 _ s1 (.int _)⟩
def rGetL : V → V → Hp → VK → Prop := fun o i H Q => ∃ p xs v, o = .ref p ∧ i = .int 1 ∧ H p = some (.lst xs) ∧ xs[1]? = some v ∧ Q v H
theorem get_one : PGet X rGetL := by
  intro pins s σ H o i ov iv Q I ro ri h
  obtain ⟨p, xs, v, rfl, rfl, hH, hx, q⟩ := h
  cases ro
  obtain ⟨t, rfl⟩ := ri
  obtain ⟨its, r, pl, hz⟩ := I.list (.inl (.inl hH))
  obtain ⟨u, hu, ru⟩ := r.get hx
  exact wpAny_getItem_list pl.isList (by decide) (by decide) (x := u) (by simpa using hu) ⟨v, H, I, ru, q⟩
theorem FI.drawn {I0 H0 I H : Hp} {k : Nat} {σ : List (Option V)} {ρ : Env} (F : FI G I0 H0 I H k σ ρ) {a : Addr} (h : G.da = some a) : FI G I0 H0 I (upd H a (.lst [.ref G.sa, .int ((k + 1 : Nat) : Int)])) (k + 1) σ ρ := by
  obtain ⟨h1, h2, h3⟩ := F.w.drw a h
  have ne : ∀ x, G.da ≠ some x → x ≠ a := fun x q z => q (by rw [z]; exact h)
  refine ⟨⟨⟨fun b u e => ?_, ?_, fun d hd => ?_⟩, F.st.sub, F.st.new, fun b u e q => ?_⟩, F.len, F.val, fun i d e => ?_, F.dis, fun i c ds e => ?_, F.one⟩
  · have nb : b ≠ a := fun z => by rw [z, h2] at e; cases e
    rw [upd_ne nb]; exact F.w.inH b u e
  · rcases F.w.scr with ⟨u, e⟩ | e
    · refine .inl ⟨u, ?_⟩
      have nb : G.sa ≠ a := fun z => by rw [z, h3] at e; cases e
      rw [upd_ne nb]; exact e
    · exact .inr e
  · rw [h] at hd; cases hd
    exact ⟨h1, h2, upd_same⟩
  · rw [upd_ne (ne b q)]; exact F.st.same b u e q
  · obtain ⟨b, g1, g2, g3, g4, g5⟩ := F.own i d e
    exact ⟨b, g1, g2.upd (ne b g5), g3, g4, g5⟩
  · obtain ⟨x, dx, C, vs, g1, g2, g3, g4, g5, g6, g7, g8, g9⟩ := F.me i c ds e
    exact ⟨x, dx, C, vs, g1, g2, by rw [upd_ne (ne x g9)]; exact g3, g4, g5, g6, g7, g8, g9⟩
/-- draw[1] += 1 -/
def sInc (i : Nat) : SemS := fun ρ k => match ρ[i]? with
  | some (Slot.val .drw) => some (.nx ρ, k + 1)
  | _ => none
theorem ds_inc {o : Expr} {i : Nat} {j1 j2 : Nat} {c1 c2 tpos : Pos} (ho : PE X o (tVar i)) : DS G X (.AugAssign (.Subscript o (.Constant (.int 1) j1 c1) tpos) .Add (.Constant (.int 1) j2 c2) pos) (sInc i) :=
  PS.mono (ps_augS ho pe_int get_one pe_int ip_add set_list (by intros; rfl)) fun D σ H hq => by
  obtain ⟨I0, H0, I, k, ρ, o, k', F, e, q⟩ := hq
  unfold sInc at e
  cases c : ρ[i]? with
  | none => rw [c] at e; cases e
  | some sl =>
    rw [c] at e
    cases sl with
    | val d =>
      cases d with
      | drw =>
        cases e
        obtain ⟨v, h1, h2⟩ := F.val i _ c
        cases h2 with
        | @drw a h =>
          obtain ⟨g1, g2, g3⟩ := F.w.drw _ h
          refine ⟨.ref a, h1, a, _, .int k, rfl, rfl, g3, rfl, k, 1, rfl, rfl, a, _, 1, 1, rfl, rfl, g3, rfl, ?_⟩
          have := q I _ σ (F.drawn h) (fun _ _ e => e)
          simpa using this
      | _ => cases e
    | _ => cases e
end

-- ### the law's def 
mutual
theorem Rep.daN {G : Gh} {x : Option Addr} {I : Hp} (hn : G.da = none) : ∀ {v : V} {d : D}, Rep G I v d → Rep { G with da := x } I v d
  | _, _, .non => .non
  | _, _, .bl b => .bl b
  | _, _, .int i => .int i
  | _, _, .str x => .str x
  | _, _, .tup h r => .tup h (r.daN hn)
  | _, _, .lst h r => .lst h (r.daN hn)
  | _, _, .ins h hc hl r => .ins h hc hl (r.daN hn)
  | _, _, .dK h hk r => .dK h hk (r.daN hn)
  | _, _, .dT h hk r => .dT h hk (r.daN hn)
  | _, _, .scr => .scr
  | _, _, .drw h => by rw [hn] at h; cases h
theorem RepL.daN {G : Gh} {x : Option Addr} {I : Hp} (hn : G.da = none) : ∀ {v : List V} {d : List D}, RepL G I v d → RepL { G with da := x } I v d
  | _, _, .nil => .nil
  | _, _, .cons h t => .cons (h.daN hn) (t.daN hn)
end
section
variable {P : Program} {w : World} {K : PySem.W.Frag} {mg : Str → Option Value} {base : Heap} {x qual : Str} {params : Arguments} {scope : Scope} {f : Addr} {fd : FuncData} {N : List Str} {k : Nat} {B : SemS}
/-- what the law's def promises -/
def spLaw (K : PySem.W.Frag) (sa : Addr) (ns : List Int) : Sp := fun vs H Q _ => vs = [.ref sa] ∧ Only H ∧ SqL K H sa (ns.map V.int) ∧ ∀ H', Q (.bl true) H'
theorem scr_only {H : Hp} {sa : Addr} {ns : List Int} (hO : Only H) (h : SqL K H sa (ns.map V.int)) : ScrOk K H sa ns := by
  rcases h with (h | ⟨o, h⟩) | h
  · rcases hO sa with z | ⟨o, xs, z⟩
    · rw [z] at h; cases h
    · rw [z] at h; cases h
  · exact .inl ⟨o, h⟩
  · exact .inr h
theorem law_fn {cls : Cn → Option Addr} {sa : Addr} {ns : List Int} {pp pl p0 pos : Pos} {ss : List Stmt} {j : Nat} {sp : Pos} (F : FunD K x qual params (.Assign [.Name "draw" pp] (.List [.Name "script" sp, .Constant (.int 0) j p0] pl) pos :: ss) scope [] [] f fd) (S : FnScope ("script" :: "draw" :: N) ["script"] scope)
    (hl1 : Loc scope "draw") (hl0 : Loc scope "script")
    (hsw : ∀ cdv A outer s H E, swapsWith (.List [.Name "script" sp, .Constant (.int 0) j p0] pl) (some (.Name "draw" pp)) pos.line (cxB P w K mg base ("script" :: "draw" :: N) qual scope f cdv A outer s H E).env = pure false)
    (hb : ∀ da cdv A outer s H E, Room k (A.deeper (envOfC qual scope s.heap.objs.size f cdv)) → DSs ⟨K, cls, sa, ns, some da, none⟩ (cxB P w K mg base ("script" :: "draw" :: N) qual scope f cdv A outer s H E) ss B)
    (hr : ∃ k', B (.val .scr :: .val .drw :: List.replicate N.length .no) 0 = some (.ret (.bl true), k')) : FnOk P w K mg base CX0 (k + 1) f fd ["script"] (spLaw K sa ns) := by
  refine F.ok S (fun vs H Q E h => by rw [h.1]; rfl) fun cdv A outer s H vs Q E hrm h => ?_
  obtain ⟨rfl, hO, hS, q⟩ := h
  have hrest : PSs (cxB P w K mg base ("script" :: "draw" :: N) qual scope f cdv A outer s H E) ss (fun D σ H' => ∃ da, tDS ⟨K, cls, sa, ns, some da, none⟩ B D σ H') :=
    ⟨fun pins s' σ H' D I ⟨da, h⟩ => (hb da cdv A outer s H E hrm).run pins s' σ H' D I h⟩
  refine ⟨_, PSs.nox (pss_cons (ps_set (X := cxB P w K mg base ("script" :: "draw" :: N) qual scope f cdv A outer s H E) (i := 1) S.nd rfl hl1 (pe_lst (pa_cons (pe_var (i := 0) rfl (hl0.elim .inl fun h => .inr (.inl h))) (pa_cons pe_int pa_nil rfl) rfl)) (hsw cdv A outer s H E) (.inl rfl)) hrest), ?_⟩
  refine ⟨.ref sa, rfl, ?_⟩
  refine ⟨(by show 2 ≤ sizeLine; decide), fun p hp => ?_⟩
  refine ⟨p, fun _ => none, upd H p (.lst [.ref sa, .int 0]), fun _ => none, 0, .val .scr :: .val .drw :: List.replicate N.length .no, ?_⟩
  obtain ⟨k', e⟩ := hr
  have w0 : WOk ⟨K, cls, sa, ns, some p, none⟩ (fun _ => none) (upd H p (.lst [.ref sa, .int 0])) 0 := by
    refine ⟨fun a o e => (by cases (show (none : Option HO) = some o from e)), ?_, fun d hd => (by cases hd; exact ⟨trivial, rfl, upd_same⟩)⟩
    exact (scr_only hO hS).sub fun o e => by rw [upd_ne (ne_of_none e hp)]; exact e
  refine ⟨_, k', ⟨Step.refl w0, ?_, ?_, ?_, ?_, ?_, ?_⟩, e, fun I' H' v s1 r1 => by cases r1; exact q H'⟩
  · show ((L2.start ("script" :: "draw" :: N) [V.ref sa]).set 1 (some (.ref p))).length = _
    simp [L2.start]
  · intro i d h
    match i, h with
    | 0, h => cases h; exact ⟨.ref sa, rfl, .scr⟩
    | 1, h => cases h; exact ⟨.ref p, rfl, .drw rfl⟩
    | i + 2, h =>
      have h' : (List.replicate N.length Slot.no)[i]? = some (.val d) := h
      rw [List.getElem?_replicate] at h'
      split at h' <;> cases h'
  · intro i d h
    match i, h with
    | i + 2, h =>
      have h' : (List.replicate N.length Slot.no)[i]? = some (.own d) := h
      rw [List.getElem?_replicate] at h'
      split at h' <;> cases h'
  · intro i j d e a h
    match i, h with
    | i + 2, h =>
      have h' : (List.replicate N.length Slot.no)[i]? = some (.own d) := h
      rw [List.getElem?_replicate] at h'
      split at h' <;> cases h'
  · intro i c d h
    match i, h with
    | i + 2, h =>
      have h' : (List.replicate N.length Slot.no)[i]? = some (.me c d) := h
      rw [List.getElem?_replicate] at h'
      split at h' <;> cases h'
  · intro i j c e d d' h
    match i, h with
    | i + 2, h =>
      have h' : (List.replicate N.length Slot.no)[i]? = some (.me c d) := h
      rw [List.getElem?_replicate] at h'
      split at h' <;> cases h'
/-- over every script -/
theorem law_any {n : Nat} (h : ∀ sa ns, ns.length ≤ n → FnOk P w K mg base CX0 k f fd ["script"] (spLaw K sa ns)) : FnOk P w K mg base CX0 k f fd ["script"] (fun vs H Q E => ∃ sa ns, ns.length ≤ n ∧ spLaw K sa ns vs H Q E) :=
  ⟨fun vs H Q E ⟨sa, ns, hl, q⟩ => (h sa ns hl).len vs H Q E q, fun A outer s H args us vs Q E hr he hb hv ⟨sa, ns, hl, q⟩ => (h sa ns hl).run A outer s H args us vs Q E hr he hb hv q⟩
end
end Sky

end
section
-- SkyR: in, not in, by data; x op= e; comprehensions of two clauses. 
namespace Sky
open PySem PySem.Spec PyProof.Rows L2
section
variable {G : Gh} {X : Cx} {pos pos' : Pos}

-- ### in 
def memP (x : D) (ys : List D) (f : List PyData → PyData) : Option Bool := match x.py, D.pys ys with
  | some p, some qs => if (SeqAt.shaped p && SeqAt.shaped (f qs)) = true then some (qs.any fun z => PyData.eqv z p) else none
  | _, _ => none
theorem memP_some {x : D} {ys : List D} {f : List PyData → PyData} {b : Bool} (h : memP x ys f = some b) : ∃ p qs, x.py = some p ∧ D.pys ys = some qs ∧ SeqAt.shaped p = true ∧ SeqAt.shaped (f qs) = true ∧ b = qs.any fun z => PyData.eqv z p := by
  unfold memP at h
  split at h
  · rename_i p qs e1 e2
    by_cases c : (SeqAt.shaped p && SeqAt.shaped (f qs)) = true
    · rw [if_pos c] at h; cases h
      obtain ⟨c1, c2⟩ := Bool.and_eq_true_iff.mp c
      exact ⟨p, qs, e1, e2, c1, c2, rfl⟩
    · rw [if_neg c] at h; cases h
  · cases h
def signIn (x y : Str) : Option Bool := match x.cps.toList with
  | [c] => some (decide (c ∈ y.cps.toList))
  | _ => none
def cIn (x : D) : D → Option Bool
  | .lst ys => memP x ys .list
  | .tup ys => memP x ys .tuple
  | .str y => (match x with
    | .str x => signIn x y
    | _ => none)
  | _ => none
def cNotIn (x y : D) : Option Bool := (cIn x y).map (!·)
/-- by values: neg for not in -/
def rInX (K : PySem.W.Frag) (neg : Bool) : R2 := fun x y H Q =>
  (∃ p qs, Dp K H x p ∧ (Dp K H y (.list qs) ∧ SeqAt.shaped (.list qs) = true ∨ Dp K H y (.tuple qs) ∧ SeqAt.shaped (.tuple qs) = true) ∧ SeqAt.shaped p = true ∧ Q (.bl (xor neg (qs.any fun z => PyData.eqv z p))) H) ∨
  ∃ (c : Nat) (z : Str), x = .str ⟨#[c]⟩ ∧ y = .str z ∧ Q (.bl (xor neg (decide (c ∈ z.cps.toList)))) H
theorem room65 {k : Nat} {A : Around} (r : Room k A) : A.units + 65 < cLine := by have := r.un; omega
theorem op_inX (hu : X.A.units + 65 < cLine) : OpR X (compareOp .In) (rInX X.K false) := by
  intro pins s σ H x y v u Q I rx ry h
  rcases h with ⟨p, qs, hp, hq, sp, q⟩ | ⟨c, z, rfl, rfl, q⟩
  · rw [Bool.false_xor] at q
    obtain ⟨as, ra⟩ := Dp.reads I p x v hp rx
    rcases hq with ⟨hq, sq⟩ | ⟨hq, sq⟩
    · obtain ⟨bs, rb⟩ := Dp.reads I _ y u hq ry
      exact SeqAt.in_list_reads rb ra (SeqAt.canLay_of_shaped sq) (SeqAt.canLay_of_shaped sp) (room_in_shaped sp hu) ⟨.bl _, H, I, rfl, q⟩
    · obtain ⟨bs, rb⟩ := Dp.reads I _ y u hq ry
      exact SeqAt.in_tuple_reads rb ra (SeqAt.canLay_of_shaped sq) (SeqAt.canLay_of_shaped sp) (room_in_shaped sp hu) ⟨.bl _, H, I, rfl, q⟩
  · exact op_in_sign pins s σ H _ _ v u Q I rx ry ⟨c, z, rfl, rfl, by rw [Bool.false_xor] at q; exact q⟩
theorem op_notInX (hu : X.A.units + 65 < cLine) : OpR X (compareOp .NotIn) (rInX X.K true) := by
  intro pins s σ H x y v u Q I rx ry h
  rcases h with ⟨p, qs, hp, hq, sp, q⟩ | ⟨c, z, rfl, rfl, q⟩
  · rw [Bool.true_xor] at q
    obtain ⟨as, ra⟩ := Dp.reads I p x v hp rx
    rcases hq with ⟨hq, sq⟩ | ⟨hq, sq⟩
    · obtain ⟨bs, rb⟩ := Dp.reads I _ y u hq ry
      exact SeqAt.notIn_list_reads rb ra (SeqAt.canLay_of_shaped sq) (SeqAt.canLay_of_shaped sp) (room_in_shaped sp hu) ⟨.bl _, H, I, rfl, q⟩
    · obtain ⟨bs, rb⟩ := Dp.reads I _ y u hq ry
      exact SeqAt.notIn_tuple_reads rb ra (SeqAt.canLay_of_shaped sq) (SeqAt.canLay_of_shaped sp) (room_in_shaped sp hu) ⟨.bl _, H, I, rfl, q⟩
  · exact op_notIn_sign pins s σ H _ _ v u Q I rx ry ⟨c, z, rfl, rfl, by rw [Bool.true_xor] at q; exact q⟩
theorem rInX_of {neg : Bool} {I H : Hp} {k : Nat} {x y : V} {d e : D} {b : Bool} {Q : VK} (w : WOk G I H k) (hx : RepB G I H x d) (hy : RepB G I H y e) (c : cIn d e = some b) (q : Q (.bl (xor neg b)) H) : rInX G.K neg x y H Q := by
  cases e <;> simp only [cIn] at c <;> try cases c
  · rename_i y'
    cases d <;> simp only at c <;> try cases c
    rename_i x'
    obtain rfl := hx.str; obtain rfl := hy.str
    unfold signIn at c
    split at c
    · rename_i z hz
      cases c
      have ex : x' = ⟨#[z]⟩ := by
        cases x' with
        | mk a => cases a with
          | mk l => simp only at hz; rw [hz]
      subst ex
      exact .inr ⟨z, y', rfl, rfl, q⟩
    · cases c
  · obtain ⟨p, qs, e1, e2, s1, s2, rfl⟩ := memP_some c
    exact .inl ⟨p, qs, pyB w.inH hx e1, .inr ⟨pyB w.inH hy (by simp only [D.py, e2, Option.map]), s2⟩, s1, q⟩
  · obtain ⟨p, qs, e1, e2, s1, s2, rfl⟩ := memP_some c
    exact .inl ⟨p, qs, pyB w.inH hx e1, .inl ⟨pyB w.inH hy (by simp only [D.py, e2, Option.map]), s2⟩, s1, q⟩
theorem rd_in : RDB G (rInX G.K false) cIn := by
  intro I H k x y d e z Q w hx hy hz q
  cases c : cIn d e with
  | none => simp only [c, Option.map] at hz; cases hz
  | some b =>
    simp only [c, Option.map] at hz; cases hz
    exact rInX_of w hx hy c (by rw [Bool.false_xor]; exact q I H _ (Step.refl w) (.bl _))
theorem rd_notIn : RDB G (rInX G.K true) cNotIn := by
  intro I H k x y d e z Q w hx hy hz q
  cases c : cIn d e with
  | none => simp only [cNotIn, c, Option.map] at hz; cases hz
  | some b =>
    simp only [cNotIn, c, Option.map] at hz; cases hz
    exact rInX_of w hx hy c (by rw [Bool.true_xor]; exact q I H _ (Step.refl w) (.bl _))

/-- a global name that holds a written tuple of texts -/
theorem de_hands {cs : List Cn} {fa : List He.Fa} {fn : List He.DefD} {B : Bun cs fa fn} {da : Option Addr} {me : Option (Addr × Addr × Addr)} (i : Nat) (hf : fa[i]? = some (.glo "HANDS")) (hg : Gl X "HANDS") (hm : X.mg = B.mg) (hd : (("HANDS" : Str) == ("__debug__" : Str)) = false := by decide) :
    DE (B.G da me) X (.Name "HANDS" pos) (dC (.tup (hands3.map .str))) := by
  refine de_const (v := V.ref (He.ga B.K "HANDS")) (pe_glob hg (by rw [hm]; exact Bun.glo i hf) rfl hd) fun I => ?_
  exact .tup (tupAt_sq (B.say.hands (B.say.fact i hf)) I) repL_strs

-- ### x op= e 
def sAug (i : Nat) (g : D → D → Option D) (f : Sem) : SemS := fun ρ => M.bind (dV i ρ) fun x => M.bind (f ρ) fun y => M.bind (M.lift (g x y)) fun z => M.pure (.nx (ρ.set i (.val z)))
theorem iop_mulX : OpR X (inplaceOp .Mult) (rI IntMulOk fun i j => .int (i * j)) := opI fun _ _ _ _ _ _ _ hc q => imul_int q hc
theorem ds_aug {op : Operator} {i : Nat} {x : Str} {e : Expr} {f : Sem} {r : R2} {g : D → D → Option D} (hN : X.N.Nodup) (hi : X.N[i]? = some x) (hx : Loc X.env.scope x) (hf : X.fn x = true ∨ X.env.scope.names.lookup x = some .local) (he : DE G X e f) (ho : OpR X (inplaceOp op) r) (hr : RD2 G r g) :
    DS G X (.AugAssign (.Name x pos') op e pos) (sAug i g f) := PS.mono (ps_aug hN hi hx he ho hf) fun D σ H hq => by
  obtain ⟨I0, H0, I, k, ρ, o, k', F, e, q⟩ := hq
  obtain ⟨d, k1, e1, e⟩ := M.bind_some e
  obtain ⟨d2, k2, e2, e⟩ := M.bind_some e
  obtain ⟨d3, k3, e3, e⟩ := M.bind_some e
  obtain ⟨rfl, rfl⟩ := M.pure_some e
  obtain ⟨e4, rfl⟩ := M.lift_some e3
  unfold dV at e1
  split at e1
  · rename_i d' hd
    cases e1
    obtain ⟨v, h1, h2⟩ := F.val i _ hd
    refine ⟨v, h1, I0, H0, I, _, ρ, d2, _, F, e2, fun I1 H1 u s1 r1 => ?_⟩
    exact hr I1 H1 _ v u d d2 d3 _ s1.w (.inl (h2.sub s1.sub)) (.inl r1) e4 fun I2 H2 w s2 r2 => q I2 H2 _ (((F.step s1).step s2).set i r2) fun a o e => s2.sub a o (s1.sub a o e)
  · cases e1

-- ### two clauses 
def lc2Loop (t : Tg) (c : SemB) (it : SemL) (vs : List Nat) (t1 : Tg) (c1 : SemB) (f : Sem) (ρ : Env) : List D → M (List D)
  | [] => M.pure []
  | d :: ds => match t.put d ρ with
    | none => M.fail
    | some ρ' => M.bind (c ρ') fun b => match b with
      | true => M.bind (it ρ') fun es => M.bind (lcLoop t1 c1 f (wipeE ρ' vs) es) fun xs => M.bind (lc2Loop t c it vs t1 c1 f ρ ds) fun ys => M.pure (xs ++ ys)
      | false => lc2Loop t c it vs t1 c1 f ρ ds
def dLc2 (us : List Nat) (it0 : SemL) (t : Tg) (c : SemB) (it : SemL) (vs : List Nat) (t1 : Tg) (c1 : SemB) (f : Sem) : Sem := fun ρ => M.bind (it0 ρ) fun ds => M.bind (lc2Loop t c it vs t1 c1 f (wipeE ρ us) ds) fun xs => M.lift (if lim xs.length then some (.lst xs) else none)
theorem lc2Loop_cons {t : Tg} {c : SemB} {it : SemL} {vs : List Nat} {t1 : Tg} {c1 : SemB} {f : Sem} {ρ : Env} {d : D} {ds : List D} {k k' : Nat} {xs : List D} (h : lc2Loop t c it vs t1 c1 f ρ (d :: ds) k = some (xs, k')) :
    ∃ ρ' b k1, t.put d ρ = some ρ' ∧ c ρ' k = some (b, k1) ∧ ((b = false ∧ lc2Loop t c it vs t1 c1 f ρ ds k1 = some (xs, k')) ∨
      (b = true ∧ ∃ es k2 x1 k3 ys, it ρ' k1 = some (es, k2) ∧ lcLoop t1 c1 f (wipeE ρ' vs) es k2 = some (x1, k3) ∧ lc2Loop t c it vs t1 c1 f ρ ds k3 = some (ys, k') ∧ xs = x1 ++ ys)) := by
  simp only [lc2Loop] at h
  cases e : t.put d ρ with
  | none => rw [e] at h; cases h
  | some ρ' =>
    rw [e] at h
    obtain ⟨b, k1, e1, h⟩ := M.bind_some h
    refine ⟨ρ', b, k1, rfl, e1, ?_⟩
    cases b with
    | false => exact .inl ⟨rfl, h⟩
    | true =>
      obtain ⟨es, k2, e2, h⟩ := M.bind_some h
      obtain ⟨x1, k3, e3, h⟩ := M.bind_some h
      obtain ⟨ys, k4, e4, h⟩ := M.bind_some h
      obtain ⟨rfl, rfl⟩ := M.pure_some h
      exact .inr ⟨rfl, es, k2, x1, k3, ys, e2, e3, e4, rfl⟩
theorem keepN {I I' H H' : Hp} {k : Nat} {Dn : Addr} {o : HO} (dne : G.da ≠ some Dn) (s : Step G I H I' H' k) (h1 : I Dn = none) (h2 : H Dn = some o) : I' Dn = none ∧ H' Dn = some o := by
  refine ⟨?_, s.same _ _ h2 dne⟩
  cases z : I' Dn with
  | none => rfl
  | some u =>
    rcases s.new _ _ z with w | w
    · rw [h1] at w; cases w
    · rw [h2] at w; cases w
theorem drop_at {α : Type} {l : List α} {i : Nat} {d : α} (h : l[i]? = some d) : l.drop i = d :: l.drop (i + 1) := by
  obtain ⟨h1, h2⟩ := List.getElem?_eq_some_iff.mp h
  rw [← h2]; exact List.drop_eq_getElem_cons h1
/-- a target stores data alone, at its slots -/
def Tg.Good (t : Tg) : Prop := ∀ d ρ ρ', t.put d ρ = some ρ' → ∀ j e, ρ'[j]? = some (.own e) → ρ[j]? = some (.own e) ∧ j ∉ t.slots
def Tgs.Good (t : Tgs) : Prop := ∀ ds ρ ρ', t.put ds ρ = some ρ' → ∀ j e, ρ'[j]? = some (.own e) → ρ[j]? = some (.own e) ∧ j ∉ t.slots
theorem gd_name {i : Nat} : (tgName i).Good := fun d ρ ρ' h j e hj => by
  cases h
  rcases set_get hj with ⟨_, z⟩ | ⟨ne, hj⟩
  · cases z
  · exact ⟨hj, fun z => ne (List.mem_singleton.mp z)⟩
theorem gd_nil : tgsNil.Good := fun ds ρ ρ' h j e hj => by
  cases ds with
  | nil => cases h; exact ⟨hj, fun z => nomatch z⟩
  | cons _ _ => cases h
theorem gd_cons {t : Tg} {u : Tgs} (h1 : t.Good) (h2 : u.Good) : (tgsCons t u).Good := fun ds ρ ρ' h j e hj => by
  cases ds with
  | nil => cases h
  | cons d ds =>
    simp only [tgsCons] at h
    cases c : t.put d ρ with
    | none => rw [c] at h; cases h
    | some ρ1 =>
      rw [c] at h
      obtain ⟨q1, q2⟩ := h2 ds ρ1 ρ' h j e hj
      obtain ⟨q3, q4⟩ := h1 d ρ ρ1 c j e q1
      exact ⟨q3, fun z => (List.mem_append.mp z).elim q4 q2⟩
theorem gd_tup {n : Nat} {t : Tgs} (h1 : t.Good) : (tgTup n t).Good := fun d ρ ρ' h j e hj => by
  cases d <;> simp only [tgTup] at h <;> try cases h
  rename_i ds
  cases c : Nat.beq ds.length n with
  | false => rw [c] at h; cases h
  | true => rw [c] at h; exact h1 ds ρ ρ' h j e hj
theorem FI.mutD {I0 H0 I H : Hp} {k : Nat} {σ : List (Option V)} {ρ : Env} (F : FI G I0 H0 I H k σ ρ) {Dn : Addr} {acc bcc : List V} (hI : I Dn = none) (h0 : H0 Dn = none) (hd : G.da ≠ some Dn) (hH : H Dn = some (.lst acc))
    (ne : ∀ (j : Nat) (d : D), ρ[j]? = some (.own d) → σ[j]? ≠ some (some (V.ref Dn))) : FI G I0 H0 I (upd H Dn (.lst bcc)) k σ ρ where
  st := F.st.write hI h0 hd (fun u l e => by rw [hH] at e; cases e)
  len := F.len
  val := F.val
  own := fun j e h => by
    obtain ⟨b, g1, g2, g3⟩ := F.own j e h
    exact ⟨b, g1, g2.upd (fun z => ne j e h (by rw [g1, z])), g3⟩
  dis := F.dis
  me := fun j c ds h => by
    obtain ⟨x, dx, C, vs, h1, h2, h3, h4⟩ := F.me j c ds h
    exact ⟨x, dx, C, vs, h1, h2, by rw [upd_ne (fun z => by rw [z, hH] at h3; cases h3)]; exact h3, h4⟩
  one := F.one
theorem td_lc2 {us vs : List Nat} {it0 it : SemL} {t t1 : Tg} {c c1 : SemB} {f : Sem} {σ : List (Option V)} {H : Hp} {Q : VK} (hs : ∀ i ∈ t.slots, i ∈ us) (hs1 : ∀ i ∈ t1.slots, i ∈ vs) (gd : t.Good) (hq : tD G (dLc2 us it0 t c it vs t1 c1 f) σ H Q) :
    tLc2 (tDI G it0) (tDG G t) (tDB G c) (tDI G it) (tDG G t1) (tDB G c1) (tD G f) us vs σ H Q := by
  obtain ⟨I0, H0, I, k, ρ, d, k', F, e, q⟩ := hq
  obtain ⟨ds, k1, e1, e⟩ := M.bind_some e
  obtain ⟨xs, k2, e2, e⟩ := M.bind_some e
  obtain ⟨e3, rfl⟩ := M.lift_some e
  have hlim : lim xs.length = true := by
    by_cases z : lim xs.length = true
    · exact z
    · rw [if_neg z] at e3; cases e3
  rw [if_pos hlim] at e3
  cases e3
  refine ⟨I0, H0, I, k, ρ, ds, k1, F, e1, fun I1 H1 J s1 y Dn hD => ?_⟩
  have hwk := s1.w
  have dne : G.da ≠ some Dn := hwk.ne hD
  have hlt := lim_lt hlim
  refine ⟨fun i m H' => m = ds.length - i ∧ i ≤ ds.length ∧ ∃ I2 k2 acc as rest, Step G I1 H1 I2 H' k2 ∧ I2 Dn = none ∧ H' Dn = some (.lst acc) ∧ RepL G I2 acc as ∧ lc2Loop t c it vs t1 c1 f (wipeE ρ us) (ds.drop i) k2 = some (rest, k') ∧ as ++ rest = xs, ⟨ds.length, by simp, Nat.zero_le _, ?_⟩, ?_⟩
  · refine ⟨I1, k1, [], [], xs, Step.mut hwk (Step.refl hwk) hD ?_, ?_, upd_same, .nil, e2, rfl⟩
    all_goals
      cases z : I1 Dn with
      | none => rfl
      | some u => have := hwk.inH _ _ z; rw [hD] at this; cases this
  rintro i m H2 ⟨rfl, hi, I2, k2, acc, as, rest, s2, hID, hHD, ra, hl, hx⟩
  by_cases hil : i < ds.length
  · refine .inr ⟨y.goes i H2 hil ⟨I2, k2, s2.sub, s2.w⟩, fun H' => i + 1 ≤ ds.length ∧ ∃ I2 k2 acc as rest, Step G I1 H1 I2 H' k2 ∧ I2 Dn = none ∧ H' Dn = some (.lst acc) ∧ RepL G I2 acc as ∧ lc2Loop t c it vs t1 c1 f (wipeE ρ us) (ds.drop (i + 1)) k2 = some (rest, k') ∧ as ++ rest = xs,
      fun H' h => ⟨ds.length - (i + 1), by omega, rfl, h⟩, fun x H' hy => ?_⟩
    obtain ⟨I3, d, s3, hd, rd⟩ := y.yields i H2 x H' hil ⟨I2, k2, s2.sub, s2.w⟩ hy I2 k2 s2.sub s2.w
    rw [drop_at hd] at hl
    obtain ⟨ρ', b, k3, p1, p2, p3⟩ := lc2Loop_cons hl
    obtain ⟨hID3, hHD3⟩ := keepN dne s3 hID hHD
    refine ⟨I0, H0, I3, k2, wipeE ρ us, d, ρ', (((F.step s1).step (s2.trans s3)).wipe us), rd, p1, fun σ2 F2 o2 => ⟨off_wipe hs o2, ?_⟩⟩
    refine ⟨I0, H0, I3, k2, ρ', b, k3, F2, p2, fun I4 H4 s4 => ?_⟩
    obtain ⟨hID4, hHD4⟩ := keepN dne s4 hID3 hHD3
    rcases p3 with ⟨rfl, p3⟩ | ⟨rfl, es, k5, x1, k6, ys, p4, p5, p6, p7⟩
    · exact iteF ⟨hil, I4, k3, acc, as, rest, (s2.trans s3).trans s4, hID4, hHD4, (ra.sub s3.sub).sub s4.sub, p3, hx⟩
    · refine iteT ⟨I0, H0, I4, k3, ρ', es, k5, F2.step s4, p4, fun I5 H5 J1 s5 y1 => ?_⟩
      obtain ⟨hID5, hHD5⟩ := keepN dne s5 hID4 hHD4
      have h0D : H0 Dn = none := by
        cases z : H0 Dn with
        | none => rfl
        | some o => have := (F.st.trans s1).same _ _ z dne; rw [hD] at this; cases this
      have hne : ∀ (j : Nat) (d : D), ρ'[j]? = some (.own d) → σ2[j]? ≠ some (some (V.ref Dn)) := fun j d' hj z => by
        obtain ⟨g1, g2⟩ := gd _ _ _ p1 j d' hj
        rw [o2.2 j g2] at z
        obtain ⟨a, g3, g4, _⟩ := ((F.step s1).wipe us).own j d' g1
        rw [z] at g3; cases g3
        obtain ⟨o, ho⟩ := g4.there
        rw [hD] at ho; cases ho
      refine ⟨fun j m H' => m = es.length - j ∧ j ≤ es.length ∧ ∃ I6 kk acc as rest, Sub I5 I6 ∧ Step G I1 H1 I6 H' kk ∧ FI G I0 H0 I6 H' kk σ2 ρ' ∧ I6 Dn = none ∧ H' Dn = some (.lst acc) ∧ RepL G I6 acc as ∧ lcLoop t1 c1 f (wipeE ρ' vs) (es.drop j) kk = some (rest, k6) ∧ as ++ rest ++ ys = xs,
        ⟨es.length, by simp, Nat.zero_le _, ?_⟩, ?_⟩
      · exact ⟨I5, k5, acc, as, x1, fun _ _ e => e, (s2.trans s3).trans (s4.trans s5), (F2.step s4).step s5, hID5, hHD5, ((ra.sub s3.sub).sub s4.sub).sub s5.sub, p5, by rw [List.append_assoc, ← p7]; exact hx⟩
      rintro j m H6 ⟨rfl, hj, I6, kk, acc, as, rest, s6, t6, F6, hID6, hHD6, ra6, hl6, hx6⟩
      by_cases hjl : j < es.length
      · refine .inr ⟨y1.goes j H6 hjl ⟨I6, kk, s6, t6.w⟩, fun H' => j + 1 ≤ es.length ∧ ∃ I6 kk acc as rest, Sub I5 I6 ∧ Step G I1 H1 I6 H' kk ∧ FI G I0 H0 I6 H' kk σ2 ρ' ∧ I6 Dn = none ∧ H' Dn = some (.lst acc) ∧ RepL G I6 acc as ∧ lcLoop t1 c1 f (wipeE ρ' vs) (es.drop (j + 1)) kk = some (rest, k6) ∧ as ++ rest ++ ys = xs,
          fun H' h => ⟨es.length - (j + 1), by omega, rfl, h⟩, fun x2 H' hy2 => ?_⟩
        obtain ⟨I7, d2, s7, hd2, rd2⟩ := y1.yields j H6 x2 H' hjl ⟨I6, kk, s6, t6.w⟩ hy2 I6 kk s6 t6.w
        rw [drop_at hd2] at hl6
        obtain ⟨ρ2, b2, k8, q1, q2, q3⟩ := lcLoop_cons hl6
        obtain ⟨hID7, hHD7⟩ := keepN dne s7 hID6 hHD6
        refine ⟨I0, H0, I7, kk, wipeE ρ' vs, d2, ρ2, (F6.step s7).wipe vs, rd2, q1, fun σ3 F3 o3 => ⟨off_wipe hs1 o3, ?_⟩⟩
        refine ⟨I0, H0, I7, kk, ρ2, b2, k8, F3, q2, fun I8 H8 s8 => ?_⟩
        obtain ⟨hID8, hHD8⟩ := keepN dne s8 hID7 hHD7
        rcases q3 with ⟨rfl, q3⟩ | ⟨rfl, z, k9, zs, q4, q5, q6⟩
        · exact iteF ⟨hjl, I8, k8, acc, as, rest, fun a o e => s8.sub a o (s7.sub a o (s6 a o e)), (t6.trans s7).trans s8, (F6.step s7).step s8, hID8, hHD8, (ra6.sub s7.sub).sub s8.sub, q3, hx6⟩
        · refine iteT ⟨I0, H0, I8, k8, ρ2, z, k9, F3.step s8, q4, fun I9 H9 u s9 ru => ?_⟩
          obtain ⟨hID9, hHD9⟩ := keepN dne s9 hID8 hHD8
          have sAll := (t6.trans s7).trans (s8.trans s9)
          refine ⟨acc, hHD9, ?_, hjl, I9, k9, acc ++ [u], as ++ [z], zs, ?_, ?_, ?_, hID9, upd_same, (((ra6.sub s7.sub).sub s8.sub).sub s9.sub).append (.cons ru .nil), q5, by rw [← hx6, q6]; simp⟩
          · have h2 := ra6.length
            have h3 : as.length ≤ xs.length := by rw [← hx6, List.length_append, List.length_append]; omega
            have h4 : as.length < xs.length := by rw [← hx6, q6]; simp only [List.length_append, List.length_cons]; omega
            omega
          · exact fun a o e => s9.sub a o (s8.sub a o (s7.sub a o (s6 a o e)))
          · exact Step.mut hwk sAll hD hID9
          · exact ((F6.step s7).step (s8.trans s9)).mutD hID9 h0D dne hHD9 hne
      · have e : j = es.length := by omega
        subst e
        rw [List.drop_length] at hl6
        obtain ⟨rfl, rfl⟩ := M.pure_some hl6
        rw [List.append_nil] at hx6
        exact .inl ⟨y1.stops H6 ⟨I6, _, s6, t6.w⟩, hil, I6, _, acc, as, ys, t6, hID6, hHD6, ra6, p6, hx6⟩
  · have e : i = ds.length := by omega
    subst e
    rw [List.drop_length] at hl
    obtain ⟨rfl, rfl⟩ := M.pure_some hl
    rw [List.append_nil] at hx
    subst hx
    have s3 := Step.keep (o := .lst acc) s2 hD hID hHD (hwk.ne hD)
    exact .inl ⟨y.stops H2 ⟨I2, _, s2.sub, s2.w⟩, q _ _ _ (s1.trans s3) (.lst upd_same (ra.sub fun a u e => by rw [upd_ne (fun z => by rw [z, hID] at e; cases e)]; exact e))⟩
theorem de_lc2 {elt tg iter tg1 iter1 : Expr} {ifs ifs1 : List Expr} {scope : Scope} {own : List (Str × Nat)} {us vs : List Nat} {it0 it : SemL} {t t1 : Tg} {c c1 : SemB} {f : Sem} (hc : X.calm = true) (hN : X.N.Nodup) (hi : DI G X tg iter it0) (ok : BlkOk X.N X.env.scope scope own) (hv : ∀ i ∈ vs, i ∈ own.map (·.2))
    (hg : ∀ (s : Shared) (H : Hp) (C : Addr) (cl : List (Str × Addr)) (fp : List Addr), DG G (X.blk s H scope (compEnvC scope cl C X.env) fp) tg t) (ht : ∀ (s : Shared) (H : Hp) (C : Addr) (cl : List (Str × Addr)) (fp : List Addr), PTs (X.blk s H scope (compEnvC scope cl C X.env) fp) ifs (tDB G c))
    (hi1 : ∀ (s : Shared) (H : Hp) (C : Addr) (cl : List (Str × Addr)) (fp : List Addr), DI G (X.blk s H scope (compEnvC scope cl C X.env) fp) tg1 iter1 it)
    (hg1 : ∀ (s : Shared) (H : Hp) (C : Addr) (cl : List (Str × Addr)) (fp : List Addr), DG G (X.blk s H scope (compEnvC scope cl C X.env) fp) tg1 t1) (ht1 : ∀ (s : Shared) (H : Hp) (C : Addr) (cl : List (Str × Addr)) (fp : List Addr), PTs (X.blk s H scope (compEnvC scope cl C X.env) fp) ifs1 (tDB G c1))
    (he : ∀ (s : Shared) (H : Hp) (C : Addr) (cl : List (Str × Addr)) (fp : List Addr), DE G (X.blk s H scope (compEnvC scope cl C X.env) fp) elt f) (hs : ∀ i ∈ t.slots, i ∈ own.map (·.2)) (hs1 : ∀ i ∈ t1.slots, i ∈ vs) (gd : t.Good) (hf : ∀ x, foldedSetIterable iter X.env x = pure x) (hf1 : ∀ env x, foldedSetIterable iter1 env x = pure x) (hvs : own.map (·.2) = us) :
    DE G X (.ListComp elt [⟨tg, iter, ifs, 0⟩, ⟨tg1, iter1, ifs1, 0⟩] scope pos) (dLc2 us it0 t c it vs t1 c1 f) := by
  subst hvs
  exact PE.mono (pe_lc2 hc hN hi ok hv hg ht hi1 hg1 ht1 he hf hf1) fun _ _ _ h => td_lc2 hs hs1 gd h
theorem ds_setLc2 {i : Nat} {y : Str} {py spos : Pos} {elt tg iter tg1 iter1 : Expr} {ifs ifs1 : List Expr} {scope : Scope} {own : List (Str × Nat)} {us vs : List Nat} {it0 it : SemL} {t t1 : Tg} {c c1 : SemB} {f : Sem} (hc : X.calm = true) (hN : X.N.Nodup) (hy : X.N[i]? = some y) (hyl : X.env.scope.names.lookup y = some .local)
    (hsw : swapsWith (.ListComp elt [⟨tg, iter, ifs, 0⟩, ⟨tg1, iter1, ifs1, 0⟩] scope pos) (some (.Name y py)) spos.line X.env = pure true) (hi : DI G X tg iter it0) (ok : BlkOk X.N X.env.scope scope own) (hv : ∀ i ∈ vs, i ∈ own.map (·.2))
    (hg : ∀ (s : Shared) (H : Hp) (C : Addr) (cl : List (Str × Addr)) (fp : List Addr), DG G (X.blk s H scope (compEnvC scope cl C X.env) fp) tg t) (ht : ∀ (s : Shared) (H : Hp) (C : Addr) (cl : List (Str × Addr)) (fp : List Addr), PTs (X.blk s H scope (compEnvC scope cl C X.env) fp) ifs (tDB G c))
    (hi1 : ∀ (s : Shared) (H : Hp) (C : Addr) (cl : List (Str × Addr)) (fp : List Addr), DI G (X.blk s H scope (compEnvC scope cl C X.env) fp) tg1 iter1 it)
    (hg1 : ∀ (s : Shared) (H : Hp) (C : Addr) (cl : List (Str × Addr)) (fp : List Addr), DG G (X.blk s H scope (compEnvC scope cl C X.env) fp) tg1 t1) (ht1 : ∀ (s : Shared) (H : Hp) (C : Addr) (cl : List (Str × Addr)) (fp : List Addr), PTs (X.blk s H scope (compEnvC scope cl C X.env) fp) ifs1 (tDB G c1))
    (he : ∀ (s : Shared) (H : Hp) (C : Addr) (cl : List (Str × Addr)) (fp : List Addr), DE G (X.blk s H scope (compEnvC scope cl C X.env) fp) elt f) (hs : ∀ i ∈ t.slots, i ∈ own.map (·.2)) (hs1 : ∀ i ∈ t1.slots, i ∈ vs) (gd : t.Good) (hf : ∀ x, foldedSetIterable iter X.env x = pure x) (hf1 : ∀ env x, foldedSetIterable iter1 env x = pure x) (hvs : own.map (·.2) = us) :
    DS G X (.Assign [.Name y py] (.ListComp elt [⟨tg, iter, ifs, 0⟩, ⟨tg1, iter1, ifs1, 0⟩] scope pos) spos) (sAsg (dLc2 us it0 t c it vs t1 c1 f) (tgName i)) := by
  subst hvs
  exact ds_asgL (ps_setLc2 hc hN hy hyl hsw hi ok hv hg ht hi1 hg1 ht1 he hf hf1) fun _ _ _ h => td_lc2 hs hs1 gd h
end
end Sky

end
section
-- SkyS: lists and tuples whose items have an own equality: == and !=, in and not in. 
namespace SkyQ
open PySem PySem.SeqAt
open AutoSeq1 (wpAny_loadPart')
open MeetsSeq MeetsSeq2 MeetsSeq3 SeqRoads2
section
variable {prog : Program} {w : World} {A : Around} {R : Result → Shared → Prop}
abbrev Fi (prog : Program) (w : World) (A : Around) (R : Result → Shared → Prop) : Fin → Shared → Prop := fun z t => match z with
  | .done f => R (.ok f) t
  | .again c => c.quiet = true ∧ codeAny (model prog w) A c R t
def Stand (l b : Addr) (N : Nat) (t : Shared) : Prop := ∃ (xs ys : Array Value) (n m : Nat), t.heap.get? l = some { cls := .type "list", data := .seq xs n } ∧ t.heap.get? b = some { cls := .type "list", data := .seq ys m } ∧ xs.size = N ∧ ys.size = N
/-- the two lists stand, with n items each; the i-th two are asked: told equal the next turn, told unlike the end -/
def Two (prog : Program) (w : World) (A : Around) (E : Value → Shared → Prop) (l b : Addr) (N : Nat) (I : Nat → Shared → Prop) (J : Shared → Prop) : Prop :=
  ∀ i t, I i t → ∃ (xs ys : Array Value) (n m : Nat), t.heap.get? l = some { cls := .type "list", data := .seq xs n } ∧ t.heap.get? b = some { cls := .type "list", data := .seq ys m } ∧ xs.size = N ∧ ys.size = N ∧
    ∀ (h1 : i < xs.size) (h2 : i < ys.size), wpAny (model prog w) A.in1 (eqBool xs[i] ys[i]) (fun r t' => (r = true ∧ I (i + 1) t') ∨ (r = false ∧ Stand l b N t' ∧ J t')) E t
theorem eqLoop (l b : Addr) (N : Nat) (I : Nat → Shared → Prop) (J : Shared → Prop) (hl : Two prog w A (fun e t => R (.error e) t) l b N I J)
    (yes : ∀ t, I N t → R (.ok (.ret (.bool true))) t) (no : ∀ t, J t → R (.ok (.ret (.bool false))) t) (k : Nat) :
    ∀ i : Nat, N - i = k → i ≤ N → ∀ t, I i t → wpAny (model prog w) A.in1 (Builtin.«list.__eq__.loop» ⟨[.ref l, .ref b, rawInt i, rawInt 2], []⟩) (Fi prog w A R) (fun e t => R (.error e) t) t := by
  induction k with
  | zero =>
    intro i hk hi t h
    obtain ⟨xs, ys, n, m, gl, gb, z1, z2, _⟩ := hl _ _ h
    have ei : i = N := by omega
    have done : R (.ok (.ret (.bool true))) t := yes t (ei ▸ h)
    obtain ⟨hp, g, d, tk, os⟩ := t
    wp_walk using wpAny_loadPart' gl, wpAny_loadPart' gb
    have n1 : xs[((i : Nat) : Int).toNat]? = none := by simp; omega
    have n2 : ys[((i : Nat) : Int).toNat]? = none := by simp; omega
    rw [n1, n2]
    wp_walk using wpAny_loadPart' gl, wpAny_loadPart' gb
    show R (.ok (.ret (.bool (xs.size == ys.size)))) _
    rw [z1, z2]
    simpa using done
  | succ k ih =>
    intro i hk hi t h
    obtain ⟨xs, ys, n, m, gl, gb, z1, z2, turn⟩ := hl _ _ h
    have l1 : i < xs.size := by omega
    have l2 : i < ys.size := by omega
    have ask := turn l1 l2
    obtain ⟨hp, g, d, tk, os⟩ := t
    wp_walk using wpAny_loadPart' gl, wpAny_loadPart' gb
    have n1 : xs[((i : Nat) : Int).toNat]? = some xs[i] := by simp [l1]
    have n2 : ys[((i : Nat) : Int).toNat]? = some ys[i] := by simp [l2]
    have nc : ((i : Int) + 1) = ((i + 1 : Nat) : Int) := by omega
    rw [n1, n2]
    refine wpAny_bind (wpAny_mono ask (fun r t2 q => ?_) fun _ _ x => x)
    rcases q with ⟨rfl, q⟩ | ⟨rfl, q, j⟩
    · have more := ih (i + 1) (by omega) (by omega) t2 q
      obtain ⟨hp2, g2, d2, tk2, os2⟩ := t2
      wp_walk
      rw [nc]
      exact ⟨plainId_quiet plain_eq_loop _, codeAny_builtin entry_eq_loop (by
        rw [Around.under_plainId plain_eq_loop _]
        exact more)⟩
    · have fin := no t2 j
      obtain ⟨us, vs, n', m', gl2, gb2, y1, y2⟩ := q
      have m1 : us[((i : Nat) : Int).toNat]? = some (us[i]'(by omega)) := by simp
      have m2 : vs[((i : Nat) : Int).toNat]? = some (vs[i]'(by omega)) := by simp
      obtain ⟨hp2, g2, d2, tk2, os2⟩ := t2
      wp_walk using wpAny_loadPart' gl2, wpAny_loadPart' gb2
      rw [m1, m2]
      wp_walk
      exact fin
theorem eqList (l b : Addr) (N : Nat) (I : Nat → Shared → Prop) (J : Shared → Prop) (hl : Two prog w A (fun e t => R (.error e) t) l b N I J)
    (yes : ∀ t, I N t → R (.ok (.ret (.bool true))) t) (no : ∀ t, J t → R (.ok (.ret (.bool false))) t) {t : Shared} (h : I 0 t) :
    wpAny (model prog w) A.in1 (Builtin.«list.__eq__» ⟨[.ref l, .ref b], []⟩) (Fi prog w A R) (fun e t => R (.error e) t) t := by
  obtain ⟨xs, ys, n, m, gl, gb, z1, z2, _⟩ := hl _ _ h
  have more := eqLoop (A := A) (R := R) l b N I J hl yes no _ 0 rfl (Nat.zero_le _) t h
  obtain ⟨hp, g, d, tk, os⟩ := t
  have kind := AutoSeq1.sub_list_list
  have same : ¬ (xs.size != ys.size) = true := by simp [z1, z2]
  wp_walk using wpAny_loadPart' gl, wpAny_loadPart' gb
  exact ⟨plainId_quiet plain_eq_loop _, codeAny_builtin entry_eq_loop (by
    rw [Around.under_plainId plain_eq_loop _]
    exact more)⟩
theorem neLoop (l b : Addr) (N : Nat) (I : Nat → Shared → Prop) (J : Shared → Prop) (hl : Two prog w A (fun e t => R (.error e) t) l b N I J)
    (yes : ∀ t, I N t → R (.ok (.ret (.bool false))) t) (no : ∀ t, J t → R (.ok (.ret (.bool true))) t) (k : Nat) :
    ∀ i : Nat, N - i = k → i ≤ N → ∀ t, I i t → wpAny (model prog w) A.in1 (Builtin.«list.__eq__.loop» ⟨[.ref l, .ref b, rawInt i, rawInt 3], []⟩) (Fi prog w A R) (fun e t => R (.error e) t) t := by
  induction k with
  | zero =>
    intro i hk hi t h
    obtain ⟨xs, ys, n, m, gl, gb, z1, z2, _⟩ := hl _ _ h
    have ei : i = N := by omega
    have done : R (.ok (.ret (.bool false))) t := yes t (ei ▸ h)
    obtain ⟨hp, g, d, tk, os⟩ := t
    wp_walk using wpAny_loadPart' gl, wpAny_loadPart' gb
    have n1 : xs[((i : Nat) : Int).toNat]? = none := by simp; omega
    have n2 : ys[((i : Nat) : Int).toNat]? = none := by simp; omega
    rw [n1, n2]
    wp_walk using wpAny_loadPart' gl, wpAny_loadPart' gb
    show R (.ok (.ret (.bool (xs.size != ys.size)))) _
    rw [z1, z2]
    simpa using done
  | succ k ih =>
    intro i hk hi t h
    obtain ⟨xs, ys, n, m, gl, gb, z1, z2, turn⟩ := hl _ _ h
    have l1 : i < xs.size := by omega
    have l2 : i < ys.size := by omega
    have ask := turn l1 l2
    obtain ⟨hp, g, d, tk, os⟩ := t
    wp_walk using wpAny_loadPart' gl, wpAny_loadPart' gb
    have n1 : xs[((i : Nat) : Int).toNat]? = some xs[i] := by simp [l1]
    have n2 : ys[((i : Nat) : Int).toNat]? = some ys[i] := by simp [l2]
    have nc : ((i : Int) + 1) = ((i + 1 : Nat) : Int) := by omega
    rw [n1, n2]
    refine wpAny_bind (wpAny_mono ask (fun r t2 q => ?_) fun _ _ x => x)
    rcases q with ⟨rfl, q⟩ | ⟨rfl, q, j⟩
    · have more := ih (i + 1) (by omega) (by omega) t2 q
      obtain ⟨hp2, g2, d2, tk2, os2⟩ := t2
      wp_walk
      rw [nc]
      exact ⟨plainId_quiet plain_eq_loop _, codeAny_builtin entry_eq_loop (by
        rw [Around.under_plainId plain_eq_loop _]
        exact more)⟩
    · have fin := no t2 j
      obtain ⟨us, vs, n', m', gl2, gb2, y1, y2⟩ := q
      have m1 : us[((i : Nat) : Int).toNat]? = some (us[i]'(by omega)) := by simp
      have m2 : vs[((i : Nat) : Int).toNat]? = some (vs[i]'(by omega)) := by simp
      obtain ⟨hp2, g2, d2, tk2, os2⟩ := t2
      wp_walk using wpAny_loadPart' gl2, wpAny_loadPart' gb2
      rw [m1, m2]
      wp_walk
      exact fin
theorem neList (l b : Addr) (N : Nat) (I : Nat → Shared → Prop) (J : Shared → Prop) (hl : Two prog w A (fun e t => R (.error e) t) l b N I J)
    (yes : ∀ t, I N t → R (.ok (.ret (.bool false))) t) (no : ∀ t, J t → R (.ok (.ret (.bool true))) t) {t : Shared} (h : I 0 t) :
    wpAny (model prog w) A.in1 (Builtin.«list.__ne__» ⟨[.ref l, .ref b], []⟩) (Fi prog w A R) (fun e t => R (.error e) t) t := by
  obtain ⟨xs, ys, n, m, gl, gb, z1, z2, _⟩ := hl _ _ h
  have more := neLoop (A := A) (R := R) l b N I J hl yes no _ 0 rfl (Nat.zero_le _) t h
  obtain ⟨hp, g, d, tk, os⟩ := t
  have kind := AutoSeq1.sub_list_list
  have same : ¬ (xs.size != ys.size) = true := by simp [z1, z2]
  wp_walk using wpAny_loadPart' gl, wpAny_loadPart' gb
  exact ⟨plainId_quiet plain_eq_loop _, codeAny_builtin entry_eq_loop (by
    rw [Around.under_plainId plain_eq_loop _]
    exact more)⟩
theorem inLoop (l : Addr) (x : Value) (N : Nat) (I : Nat → Shared → Prop) (J : Shared → Prop)
    (hl : ∀ i t, I i t → ∃ (xs : Array Value) (n : Nat), t.heap.get? l = some { cls := .type "list", data := .seq xs n } ∧ xs.size = N ∧ ∀ h : i < xs.size, wpAny (model prog w) A.in1 (eqBool xs[i] x) (fun r t' => (r = false ∧ I (i + 1) t') ∨ (r = true ∧ J t')) (fun e t => R (.error e) t) t)
    (no : ∀ t, I N t → R (.ok (.ret (.bool false))) t) (yes : ∀ t, J t → R (.ok (.ret (.bool true))) t) (k : Nat) :
    ∀ i : Nat, N - i = k → i ≤ N → ∀ t, I i t → wpAny (model prog w) A.in1 (Builtin.«list.__contains__.loop» ⟨[.ref l, x, rawInt i], []⟩) (Fi prog w A R) (fun e t => R (.error e) t) t := by
  induction k with
  | zero =>
    intro i hk hi t h
    obtain ⟨xs, n, gl, z1, _⟩ := hl _ _ h
    have ei : i = N := by omega
    have done : R (.ok (.ret (.bool false))) t := no t (ei ▸ h)
    obtain ⟨hp, g, d, tk, os⟩ := t
    wp_walk using wpAny_loadPart' gl
    have n1 : xs[((i : Nat) : Int).toNat]? = none := by simp; omega
    rw [n1]
    wp_walk
    exact done
  | succ k ih =>
    intro i hk hi t h
    obtain ⟨xs, n, gl, z1, turn⟩ := hl _ _ h
    have l1 : i < xs.size := by omega
    have ask := turn l1
    obtain ⟨hp, g, d, tk, os⟩ := t
    wp_walk using wpAny_loadPart' gl
    have n1 : xs[((i : Nat) : Int).toNat]? = some xs[i] := by simp [l1]
    have nc : ((i : Int) + 1) = ((i + 1 : Nat) : Int) := by omega
    rw [n1]
    refine wpAny_bind (wpAny_mono ask (fun r t2 q => ?_) fun _ _ x => x)
    rcases q with ⟨rfl, q⟩ | ⟨rfl, j⟩
    · have more := ih (i + 1) (by omega) (by omega) t2 q
      obtain ⟨hp2, g2, d2, tk2, os2⟩ := t2
      wp_walk
      rw [nc]
      exact ⟨plainId_quiet plain_contains_loop _, codeAny_builtin entry_contains_loop (by
        rw [Around.under_plainId plain_contains_loop _]
        exact more)⟩
    · have fin := yes t2 j
      obtain ⟨hp2, g2, d2, tk2, os2⟩ := t2
      wp_walk
      exact fin
theorem inList (l : Addr) (x : Value) (N : Nat) (I : Nat → Shared → Prop) (J : Shared → Prop)
    (hl : ∀ i t, I i t → ∃ (xs : Array Value) (n : Nat), t.heap.get? l = some { cls := .type "list", data := .seq xs n } ∧ xs.size = N ∧ ∀ h : i < xs.size, wpAny (model prog w) A.in1 (eqBool xs[i] x) (fun r t' => (r = false ∧ I (i + 1) t') ∨ (r = true ∧ J t')) (fun e t => R (.error e) t) t)
    (no : ∀ t, I N t → R (.ok (.ret (.bool false))) t) (yes : ∀ t, J t → R (.ok (.ret (.bool true))) t) {t : Shared} (h : I 0 t) :
    wpAny (model prog w) A.in1 (Builtin.«list.__contains__» ⟨[.ref l, x], []⟩) (Fi prog w A R) (fun e t => R (.error e) t) t := by
  obtain ⟨xs, n, gl, z1, _⟩ := hl _ _ h
  have more := inLoop (A := A) (R := R) l x N I J hl no yes _ 0 rfl (Nat.zero_le _) t h
  obtain ⟨hp, g, d, tk, os⟩ := t
  wp_walk using wpAny_loadPart' gl
  exact ⟨plainId_quiet plain_contains_loop _, codeAny_builtin entry_contains_loop (by
    rw [Around.under_plainId plain_contains_loop _]
    exact more)⟩
end
section
variable {prog : Program} {w : World} {A : Around} {E : Value → Shared → Prop} {t : Shared}
theorem eqRc {l b : Addr} {N : Nat} {Q : Value → Shared → Prop} (hu : A.units < cLine) (I : Nat → Shared → Prop) (J : Shared → Prop) (hl : Two prog w A E l b N I J)
    (yes : ∀ t, I N t → Q (.bool true) t) (no : ∀ t, J t → Q (.bool false) t) (h : I 0 t) : wpAny (model prog w) A (richCompare .Eq (.ref l) (.ref b)) Q E t := by
  obtain ⟨xs, ys, n, m, gl, gb, _, _, _⟩ := hl _ _ h
  refine wpAny_richCompare_same_room (op := .Eq) ⟨_, gl, rfl⟩ ⟨_, gb, rfl⟩ F.slot_list_eq (GQ.call_here F.slot_list_eq ⟨_, gl, rfl⟩ F.entry_list_eq (F.args_list_eq_2 _ _) ?_) hu
  exact eqList (R := wants (fun v t => v ≠ .notImplemented ∧ Q v t) E) l b N I J hl (fun t q => ⟨(fun x => nomatch x), yes t q⟩) (fun t q => ⟨(fun x => nomatch x), no t q⟩) h
theorem neRc {l b : Addr} {N : Nat} {Q : Value → Shared → Prop} (hu : A.units < cLine) (I : Nat → Shared → Prop) (J : Shared → Prop) (hl : Two prog w A E l b N I J)
    (yes : ∀ t, I N t → Q (.bool false) t) (no : ∀ t, J t → Q (.bool true) t) (h : I 0 t) : wpAny (model prog w) A (richCompare .NotEq (.ref l) (.ref b)) Q E t := by
  obtain ⟨xs, ys, n, m, gl, gb, _, _, _⟩ := hl _ _ h
  refine wpAny_richCompare_same_room (op := .NotEq) ⟨_, gl, rfl⟩ ⟨_, gb, rfl⟩ F.slot_list_ne (GQ.call_here F.slot_list_ne ⟨_, gl, rfl⟩ F.entry_list_ne (F.args_list_ne_2 _ _) ?_) hu
  exact neList (R := wants (fun v t => v ≠ .notImplemented ∧ Q v t) E) l b N I J hl (fun t q => ⟨(fun x => nomatch x), yes t q⟩) (fun t q => ⟨(fun x => nomatch x), no t q⟩) h
theorem inCall {l : Addr} {x : Value} {N : Nat} {Q : Bool → Shared → Prop} (I : Nat → Shared → Prop) (J : Shared → Prop)
    (hl : ∀ i t, I i t → ∃ (xs : Array Value) (n : Nat), t.heap.get? l = some { cls := .type "list", data := .seq xs n } ∧ xs.size = N ∧ ∀ h : i < xs.size, wpAny (model prog w) A.in1 (eqBool xs[i] x) (fun r t' => (r = false ∧ I (i + 1) t') ∨ (r = true ∧ J t')) E t)
    (no : ∀ t, I N t → Q false t) (yes : ∀ t, J t → Q true t) (h : I 0 t) : wpAny (model prog w) A (contains (.ref l) x) Q E t := by
  obtain ⟨xs, n, gl, _, _⟩ := hl _ _ h
  refine wpAny_contains_slot ⟨_, gl, rfl⟩ F.slot_list_contains (GQ.call_here F.slot_list_contains ⟨_, gl, rfl⟩ F.entry_list_contains (F.args_list_contains_2 _ _) ?_)
  exact inList (R := wants (fun v t => wpAny (model prog w) A (truthy v) Q E t) E) l x N I J hl (fun t q => wpAny_truthy_bool (no t q)) (fun t q => wpAny_truthy_bool (yes t q)) h
theorem inOp {l : Addr} {x : Value} {Q : Value → Shared → Prop} (h : wpAny (model prog w) A (contains (.ref l) x) (fun b t => Q (.bool b) t) E t) : wpAny (model prog w) A (compareOp .In x (.ref l)) Q E t := by
  show wpAny _ A (contains (.ref l) x >>= fun b => pure (.bool b)) Q E t
  exact wpAny_bind (wpAny_mono h (fun b t q => wpAny_pure q) fun _ _ e => e)
theorem notInOp {l : Addr} {x : Value} {Q : Value → Shared → Prop} (h : wpAny (model prog w) A (contains (.ref l) x) (fun b t => Q (.bool (!b)) t) E t) : wpAny (model prog w) A (compareOp .NotIn x (.ref l)) Q E t := by
  show wpAny _ A (contains (.ref l) x >>= fun b => pure (.bool (!b))) Q E t
  exact wpAny_bind (wpAny_mono h (fun b t q => wpAny_pure q) fun _ _ e => e)
end
end SkyQ

end
section
-- SkyT: lists of instances: == and !=, in and not in, by data. 
namespace Sky
open PySem PySem.Spec PyProof.Rows L2
mutual
/-- might one value stand for both -/
def D.same : D → D → Bool
  | .bl a, .bl b => decide (a = b)
  | .int a, .int b => decide (a = b)
  | .str a, .str b => decide (a = b)
  | .ins c fs, .ins e gs => !decide (c = e) || D.sames fs gs
  | .tup xs, .tup ys => D.sames xs ys
  | .lst xs, .lst ys => D.sames xs ys
  | _, _ => true
def D.sames : List D → List D → Bool
  | x :: xs, y :: ys => D.same x y && D.sames xs ys
  | _, _ => true
end
mutual
theorem Rep.one {G : Gh} {I : Hp} (inj : ∀ a vs ws, SqT G.K I a vs → SqT G.K I a ws → vs = ws) : ∀ {v : V} {d e : D}, Rep G I v d → Rep G I v e → d.same e = true
  | _, _, _, .bl b, h => by cases h; simp [D.same]
  | _, _, _, .int b, h => by cases h; simp [D.same]
  | _, _, _, .str b, h => by cases h; simp [D.same]
  | _, _, _, .non, h => by cases h; simp [D.same]
  | _, _, _, .scr, h => by simp [D.same]
  | _, _, _, .drw _, h => by simp [D.same]
  | _, _, _, .dK _ _ _, h => by simp [D.same]
  | _, _, _, .dT _ _ _, h => by simp [D.same]
  | _, _, _, .tup h r, g => by
    cases g <;> simp only [D.same]
    rename_i us es r2 h2
    have := inj _ _ _ h h2
    subst this
    exact r.one inj r2
  | _, _, _, .lst h r, g => by
    cases g <;> simp only [D.same]
    rename_i us es r2 h2
    rw [h] at h2; cases h2
    exact r.one inj r2
  | _, _, _, .ins (c := c) (vs := vs) h hc hl r, g => by
    cases g <;> simp only [D.same]
    rename_i C2 dx2 c2 vs2 es hc2 hl2 r2 h2
    by_cases q : c = c2
    · subst q
      rw [h] at h2
      have e := h2
      simp only [Option.some.injEq, HO.ins.injEq] at e
      obtain ⟨_, _, e⟩ := e
      have : vs = vs2 := by
        have u := congrArg List.unzip e
        rw [List.unzip_zip hl.symm, List.unzip_zip hl2.symm] at u
        exact (Prod.mk.inj u).2
      subst this
      rw [r.one inj r2]; simp
    · simp [q]
theorem RepL.one {G : Gh} {I : Hp} (inj : ∀ a vs ws, SqT G.K I a vs → SqT G.K I a ws → vs = ws) : ∀ {v : List V} {d e : List D}, RepL G I v d → RepL G I v e → D.sames d e = true
  | _, _, _, .nil, h => by simp [D.sames]
  | _, _, _, .cons h t, g => by
    cases g with
    | cons h2 t2 => simp only [D.sames]; rw [h.one inj h2, t.one inj t2]; rfl
end
/-- == within a list -/
def eqItem (eqt : Eqt) (x y : D) : M Bool := fun k => match x, y with
  | .ins c fs, .ins e gs => (match eqt c with
    | some F => (match F [.ins c fs, .ins e gs] k with
      | some (.bl b, k1) => (match Nat.beq k1 k && (b || !D.same (.ins c fs) (.ins e gs)) with
        | true => some (b, k)
        | false => none)
      | _ => none)
    | none => none)
  | x, y => M.lift (cEqP x y) k
def eqItems (eqt : Eqt) : List D → List D → M Bool
  | [], [] => M.pure true
  | x :: xs, y :: ys => M.bind (eqItem eqt x y) fun b => match b with
    | true => eqItems eqt xs ys
    | false => M.pure false
  | _, _ => M.fail
def inItems (eqt : Eqt) (x : D) : List D → M Bool
  | [] => M.pure false
  | y :: ys => M.bind (eqItem eqt y x) fun b => match b with
    | true => M.pure true
    | false => inItems eqt x ys
section
variable {G : Gh} {X : Cx} {pos : Pos} {eqt : Eqt} {pins : List (Addr × Obj)} {σ : L2.St}
theorem eqItem_ins {c e : Cn} {fs gs : List D} {k k' : Nat} {b : Bool} (h : eqItem eqt (.ins c fs) (.ins e gs) k = some (b, k')) : ∃ F, eqt c = some F ∧ k' = k ∧ F [.ins c fs, .ins e gs] k = some (.bl b, k) ∧ (b = false → D.same (.ins c fs) (.ins e gs) = false) := by
  simp only [eqItem] at h
  split at h
  · rename_i F hF
    split at h
    · rename_i b1 k1 hb
      split at h
      · rename_i q
        cases h
        obtain ⟨q1, q2⟩ := Bool.and_eq_true_iff.mp q
        have q3 := Nat.eq_of_beq_eq_true q1
        subst q3
        exact ⟨F, hF, rfl, hb, fun z => by subst z; simpa using q2⟩
      · cases h
    · cases h
  · cases h
theorem item_ins (kit : KitOk G) (hK : X.K = G.K) (hE : EqOk G X eqt) {H I : Hp} {t : Shared} {k k' : Nat} {c e : Cn} {fs gs : List D} {v u : V} {p q : Value} {b : Bool} (J : Inv X pins σ H t) (w : WOk G I H k) (rp : RelV v p) (rq : RelV u q) (hx : Rep G I v (.ins c fs)) (hy : Rep G I u (.ins e gs))
    (he : eqItem eqt (.ins c fs) (.ins e gs) k = some (b, k')) : wpAny (model X.prog X.w) X.A.in1 (eqBool p q) (fun r t' => r = b ∧ ∃ I' H', Inv X pins σ H' t' ∧ Step G I H I' H' k') X.xe t := by
  obtain ⟨F, hF, rfl, hb, hsame⟩ := eqItem_ins he
  have hx' := hx
  have hy' := hy
  cases hx with
  | @ins a C dx _ vs _ h hc hl r =>
  cases hy with
  | @ins a2 C2 dx2 _ vs2 _ h2 hc2 hl2 r2 =>
  cases rp
  cases rq
  by_cases hab : a = a2
  · subst hab
    have inj : ∀ a vs ws, SqT G.K I a vs → SqT G.K I a ws → vs = ws := fun a vs ws h1 h2 => by
      have g1 := sqT_sub w.inH h1
      have g2 := sqT_sub w.inH h2
      rw [← hK] at g1 g2
      exact J.tuple_inj g1 g2
    have sm := hx'.one inj hy'
    cases b with
    | false => rw [hsame rfl] at sm; cases sm
    | true => exact SeqAt.EqAt.same (A := X.A.in1) (s := t) (.ref a) X.prog X.w X.xe _ ⟨rfl, I, H, J, Step.refl w⟩
  · refine GQ.eqBool_refG hab ?_
    obtain ⟨mA, J1, _⟩ := ins_get J.hok (w.inH _ _ h)
    obtain ⟨od, J1, _⟩ := J1.look
    obtain ⟨m, hFr⟩ := J.fr
    obtain ⟨j, f, fd, ps, hM, hok, hr, hbd⟩ := hE c F C hF hc
    obtain ⟨tu, ht, ty⟩ := tyx_of kit w.inH (.inl hy') (t := .own e) rfl
    obtain ⟨P, Z, pz, _⟩ := kit_of J (x := V.ref a2) (u := Value.ref a2) rfl (by rw [hK]; exact ty)
    refine PySem.W.cmp_K (op := .Eq) (tb := tu) hr.in1.units0 hFr J.ok.mod.kin J1 (Z.ty _ _ J.kIn pz) (by rw [hK]; exact kit.nf c C _ tu hc ht) hM.at_ hM.fn ?_
    have hsp : spM G 2 F [.ref a, .ref a2] H (fun v H' => ∃ I', v = .bl b ∧ Step G I H I' H' k') E0 := ⟨rfl, G.da, G.me, I, _, _, .bl b, _, w, .cons hx' (.cons hy' .nil), hb, fun I3 H3 z s3 r3 => by cases r3; exact ⟨I3, rfl, s3⟩⟩
    have hlen := hok.len _ _ _ _ hsp
    have rr : Vals [V.ref a, V.ref a2] [Value.ref a, Value.ref a2] := .cons rfl (.cons rfl .nil)
    have bd := hbd t [.ref a, .ref a2] J.kIn (by rw [List.append_nil, ← rr.length]; exact hlen)
    rw [List.append_nil] at bd
    refine wpAny_call (codeAny_mono (hok.run X.A.in1 X.stack t H ⟨[.ref a, .ref a2], []⟩ [.ref a, .ref a2] [.ref a, .ref a2] _ E0 hr.in1 J.env0.in1 bd rr hsp) fun r s' hq => ?_)
    cases r with
    | error e => exact pass0 pins σ H t e s' J hq
    | ok fl =>
      cases fl with
      | ret z =>
        obtain ⟨y, H1, J2, ry, I1, ey, st⟩ := J.after hq
        subst ey
        cases ry
        exact ⟨b, rfl, rfl, I1, H1, J2, st⟩
      | next => exact False.elim hq
      | brk => exact False.elim hq
      | cont => exact False.elim hq
theorem item_ok (kit : KitOk G) (hK : X.K = G.K) (hE : EqOk G X eqt) (hu : X.A.units + 65 < cLine) {H I : Hp} {t : Shared} {k k' : Nat} {d e : D} {v u : V} {p q : Value} {b : Bool} (J : Inv X pins σ H t) (w : WOk G I H k) (rp : RelV v p) (rq : RelV u q) (hx : Rep G I v d) (hy : Rep G I u e)
    (he : eqItem eqt d e k = some (b, k')) : wpAny (model X.prog X.w) X.A.in1 (eqBool p q) (fun r t' => r = b ∧ ∃ I' H', Inv X pins σ H' t' ∧ Step G I H I' H' k') X.xe t := by
  have plain : M.lift (cEqP d e) k = some (b, k') → wpAny (model X.prog X.w) X.A.in1 (eqBool p q) (fun r t' => r = b ∧ ∃ I' H', Inv X pins σ H' t' ∧ Step G I H I' H' k') X.xe t := fun z0 => by
    obtain ⟨z, rfl⟩ := M.lift_some z0
    obtain ⟨x1, x2, e1, e2, s1, s2, rfl⟩ := cEqP_some z
    obtain ⟨as, ra⟩ := Dp.reads J x1 v p (by rw [hK]; exact py_rep w.inH hx e1) rp
    obtain ⟨bs, rb⟩ := Dp.reads J x2 u q (by rw [hK]; exact py_rep w.inH hy e2) rq
    refine SeqAt.eqAt_reads x1 x2 X.A.in1 t p q as bs ra rb (SeqAt.canLay_of_shaped s1) (SeqAt.canLay_of_shaped s2) (SeqAt.room_of_shaped s1 (by show X.A.units + 1 + 64 < _; omega)) X.prog X.w X.xe _ ⟨rfl, I, H, J, Step.refl w⟩
  cases d <;> first | exact plain he | skip
  cases e <;> first | exact plain he | skip
  exact item_ins kit hK hE J w rp rq hx hy he

-- ### lists 
def leqD (eqt : Eqt) (x y : D) : M Bool := match x, y with
  | .lst xs, .lst ys => if xs.length = ys.length then eqItems eqt xs ys else M.pure false
  | _, _ => M.fail
def rLeq (G : Gh) (eqt : Eqt) (neg : Bool) : R2 := fun x y H Q => ∃ I k d e b k', WOk G I H k ∧ RepB G I H x d ∧ RepB G I H y e ∧ leqD eqt d e k = some (b, k') ∧ ∀ I' H', Step G I H I' H' k' → Q (.bl (xor neg b)) H'
theorem stand_of (kit : KitOk G) {I H I1 H1 : Hp} {t : Shared} {k1 : Nat} {a a2 : Addr} {vs us : List V} (J : Inv X pins σ H1 t) (h1 : H1 a = some (.lst vs)) (h2 : H1 a2 = some (.lst us)) : ∃ its its2 n m, t.heap.get? a = some { cls := .type "list", data := .seq its n } ∧ t.heap.get? a2 = some { cls := .type "list", data := .seq its2 m } ∧
    Vals vs its.toList ∧ Vals us its2.toList := by
  obtain ⟨z, l1, n, r1, g1⟩ := J.hok a _ h1
  obtain ⟨z2, l2, m, r2, g2⟩ := J.hok a2 _ h2
  exact ⟨l1.toArray, l2.toArray, n, m, g1, g2, by simpa using r1, by simpa using r2⟩
theorem eqItems_cons {x y : D} {xs ys : List D} {k k' : Nat} {b : Bool} (h : eqItems eqt (x :: xs) (y :: ys) k = some (b, k')) : ∃ b1 k1, eqItem eqt x y k = some (b1, k1) ∧ ((b1 = true ∧ eqItems eqt xs ys k1 = some (b, k')) ∨ (b1 = false ∧ b = false ∧ k' = k1)) := by
  obtain ⟨b1, k1, e1, e2⟩ := M.bind_some h
  refine ⟨b1, k1, e1, ?_⟩
  cases b1 with
  | true => exact .inl ⟨rfl, e2⟩
  | false =>
    obtain ⟨rfl, rfl⟩ := M.pure_some e2
    exact .inr ⟨rfl, rfl, rfl⟩
/-- what the loop over two lists needs, for both operators -/
theorem leq_two (kit : KitOk G) (hK : X.K = G.K) (hE : EqOk G X eqt) (hu : X.A.units + 65 < cLine) {H I : Hp} {k k' : Nat} {a a2 : Addr} {vs us : List V} {xs ys : List D} {b : Bool} (hlen : xs.length = ys.length)
    (dne : ∀ (I' H' : Hp) (kk : Nat), Step G I H I' H' kk → H' a = some (.lst vs) ∧ H' a2 = some (.lst us)) (r1 : RepL G I vs xs) (r2 : RepL G I us ys) :
    SkyQ.Two X.prog X.w X.A X.xe a a2 xs.length (fun i t => i ≤ xs.length ∧ ∃ I1 H1 k1, Inv X pins σ H1 t ∧ Step G I H I1 H1 k1 ∧ eqItems eqt (xs.drop i) (ys.drop i) k1 = some (b, k')) (fun t => b = false ∧ ∃ I1 H1, Inv X pins σ H1 t ∧ Step G I H I1 H1 k') := by
  rintro i t ⟨hi, I1, H1, k1, J, st, he⟩
  obtain ⟨g1, g2⟩ := dne _ _ _ st
  obtain ⟨its, its2, n, m, z1, z2, v1, v2⟩ := stand_of (I := I1) (H := H1) (I1 := I1) (k1 := k1) kit J g1 g2
  have n1 : its.size = xs.length := by have := v1.length; rw [r1.length] at this; simpa using this.symm
  have n2 : its2.size = xs.length := by have := v2.length; rw [r2.length] at this; rw [hlen]; simpa using this.symm
  refine ⟨its, its2, n, m, z1, z2, n1, n2, fun h1 h2 => ?_⟩
  have l1 : i < xs.length := by omega
  have l2 : i < ys.length := by omega
  have l3 : i < vs.length := by rw [r1.length]; exact l1
  have l4 : i < us.length := by rw [r2.length]; exact l2
  obtain ⟨p, hp, rp⟩ := v1.get (List.getElem?_eq_getElem l3)
  obtain ⟨q, hq, rq⟩ := v2.get (List.getElem?_eq_getElem l4)
  have ep : its[i] = p := by simpa [h1] using hp
  have eq : its2[i] = q := by simpa [h2] using hq
  subst ep eq
  obtain ⟨d, hd, rd⟩ := r1.getV (List.getElem?_eq_getElem l3)
  obtain ⟨e, hde, re⟩ := r2.getV (List.getElem?_eq_getElem l4)
  rw [drop_at hd, drop_at hde] at he
  obtain ⟨b1, k2, e1, e2⟩ := eqItems_cons he
  refine wpAny_mono (item_ok kit hK hE hu J st.w rp rq (rd.sub st.sub) (re.sub st.sub) e1) (fun r t' ⟨er, I2, H2, J2, st2⟩ => ?_) fun _ _ x => x
  subst er
  rcases e2 with ⟨rfl, e2⟩ | ⟨rfl, rfl, rfl⟩
  · exact .inl ⟨rfl, l1, I2, H2, k2, J2, st.trans st2, e2⟩
  · refine .inr ⟨rfl, ?_, rfl, I2, H2, J2, st.trans st2⟩
    obtain ⟨g3, g4⟩ := dne _ _ _ (st.trans st2)
    obtain ⟨us1, us2, n', m', y1, y2, w1, w2⟩ := stand_of (I := I1) (H := H1) (I1 := I1) (k1 := k1) kit J2 g3 g4
    exact ⟨us1, us2, n', m', y1, y2, by have := w1.length; rw [r1.length] at this; simpa using this.symm, by have := w2.length; rw [r2.length] at this; rw [hlen]; simpa using this.symm⟩
theorem lst_stays {I H : Hp} {v : V} {ds : List D} (w : Sub I H) (h : RepB G I H v (.lst ds)) : ∃ a vs, v = .ref a ∧ H a = some (.lst vs) ∧ RepL G I vs ds ∧ ∀ (I' H' : Hp) (kk : Nat), Step G I H I' H' kk → H' a = some (.lst vs) := by
  rcases h with h | ⟨a, e, ⟨vs, h, r⟩, _, qd⟩
  · cases h with
    | lst h r => exact ⟨_, _, rfl, w _ _ h, r, fun I' H' kk s => s.w.inH _ _ (s.sub _ _ h)⟩
  · exact ⟨a, vs, e, h, r, fun I' H' kk s => s.same _ _ h qd⟩
theorem op_leq (kit : KitOk G) (hK : X.K = G.K) (hE : EqOk G X eqt) (hu : X.A.units + 65 < cLine) : OpR X (compareOp .Eq) (rLeq G eqt false) := by
  intro pins s σ H x y v u Q J rx ry h
  obtain ⟨I, k, d, e, b, k', w, hx, hy, he, q⟩ := h
  cases d <;> cases e <;> simp only [leqD] at he <;> try cases he
  rename_i xs ys
  by_cases hl : xs.length = ys.length
  · rw [if_pos hl] at he
    obtain ⟨a, vs, rfl, h1, r1, st1⟩ := lst_stays w.inH hx
    obtain ⟨a2, us, rfl, h2, r2, st2⟩ := lst_stays w.inH hy
    cases rx
    cases ry
    show wpAny (model X.prog X.w) X.A (richCompare .Eq (.ref a) (.ref a2)) (EP X pins σ Q) X.xe s
    refine SkyQ.eqRc (by omega) _ _ (leq_two (k := k) kit hK hE hu hl (fun I' H' kk s => ⟨st1 _ _ _ s, st2 _ _ _ s⟩) r1 r2) ?_ ?_ ⟨Nat.zero_le _, I, H, k, J, Step.refl w, he⟩
    · rintro t ⟨_, I1, H1, k1, J1, s1, e1⟩
      rw [List.drop_of_length_le (Nat.le_refl _), List.drop_of_length_le (by omega)] at e1
      obtain ⟨rfl, rfl⟩ := M.pure_some e1
      exact ⟨.bl true, H1, J1, rfl, q _ _ s1⟩
    · rintro t ⟨rfl, I1, H1, J1, s1⟩
      exact ⟨.bl false, H1, J1, rfl, q _ _ s1⟩
  · rw [if_neg hl] at he
    obtain ⟨rfl, rfl⟩ := M.pure_some he
    obtain ⟨a, vs, rfl, h1, r1, st1⟩ := lst_stays w.inH hx
    obtain ⟨a2, us, rfl, h2, r2, st2⟩ := lst_stays w.inH hy
    cases rx
    cases ry
    obtain ⟨its, its2, n, m, z1, z2, v1, v2⟩ := stand_of (I := I) (H := H) (I1 := I) (k1 := k') kit J h1 h2
    have n1 : its.size = xs.length := by have := v1.length; rw [r1.length] at this; simpa using this.symm
    have n2 : its2.size = ys.length := by have := v2.length; rw [r2.length] at this; simpa using this.symm
    exact SeqAt.RcAt.lists_lengths (A := X.A) (s := s) ⟨_, z1, rfl, _, rfl⟩ ⟨_, z2, rfl, _, rfl⟩ (by rw [n1, n2]; simpa using hl) (by omega) X.prog X.w X.xe _ ⟨.bl false, H, J, rfl, q _ _ (Step.refl w)⟩
theorem op_lne (kit : KitOk G) (hK : X.K = G.K) (hE : EqOk G X eqt) (hu : X.A.units + 65 < cLine) : OpR X (compareOp .NotEq) (rLeq G eqt true) := by
  intro pins s σ H x y v u Q J rx ry h
  obtain ⟨I, k, d, e, b, k', w, hx, hy, he, q⟩ := h
  cases d <;> cases e <;> simp only [leqD] at he <;> try cases he
  rename_i xs ys
  by_cases hl : xs.length = ys.length
  · rw [if_pos hl] at he
    obtain ⟨a, vs, rfl, h1, r1, st1⟩ := lst_stays w.inH hx
    obtain ⟨a2, us, rfl, h2, r2, st2⟩ := lst_stays w.inH hy
    cases rx
    cases ry
    show wpAny (model X.prog X.w) X.A (richCompare .NotEq (.ref a) (.ref a2)) (EP X pins σ Q) X.xe s
    refine SkyQ.neRc (by omega) _ _ (leq_two (k := k) kit hK hE hu hl (fun I' H' kk s => ⟨st1 _ _ _ s, st2 _ _ _ s⟩) r1 r2) ?_ ?_ ⟨Nat.zero_le _, I, H, k, J, Step.refl w, he⟩
    · rintro t ⟨_, I1, H1, k1, J1, s1, e1⟩
      rw [List.drop_of_length_le (Nat.le_refl _), List.drop_of_length_le (by omega)] at e1
      obtain ⟨rfl, rfl⟩ := M.pure_some e1
      exact ⟨.bl false, H1, J1, rfl, q _ _ s1⟩
    · rintro t ⟨rfl, I1, H1, J1, s1⟩
      exact ⟨.bl true, H1, J1, rfl, q _ _ s1⟩
  · rw [if_neg hl] at he
    obtain ⟨rfl, rfl⟩ := M.pure_some he
    obtain ⟨a, vs, rfl, h1, r1, st1⟩ := lst_stays w.inH hx
    obtain ⟨a2, us, rfl, h2, r2, st2⟩ := lst_stays w.inH hy
    cases rx
    cases ry
    obtain ⟨its, its2, n, m, z1, z2, v1, v2⟩ := stand_of (I := I) (H := H) (I1 := I) (k1 := k') kit J h1 h2
    have n1 : its.size = xs.length := by have := v1.length; rw [r1.length] at this; simpa using this.symm
    have n2 : its2.size = ys.length := by have := v2.length; rw [r2.length] at this; simpa using this.symm
    exact SeqAt.RcNeAt.lists_lengths (A := X.A) (s := s) ⟨_, z1, rfl, _, rfl⟩ ⟨_, z2, rfl, _, rfl⟩ (by rw [n1, n2]; simpa using hl) (by omega) X.prog X.w X.xe _ ⟨.bl true, H, J, rfl, q _ _ (Step.refl w)⟩
-- ### in a list 
def linD (eqt : Eqt) (x y : D) : M Bool := match y with
  | .lst ys => inItems eqt x ys
  | _ => M.fail
def rLin (G : Gh) (eqt : Eqt) (neg : Bool) : R2 := fun x y H Q => ∃ I k d e b k', WOk G I H k ∧ Rep G I x d ∧ RepB G I H y e ∧ linD eqt d e k = some (b, k') ∧ ∀ I' H', Step G I H I' H' k' → Q (.bl (xor neg b)) H'
theorem lin_any (kit : KitOk G) (hK : X.K = G.K) (hE : EqOk G X eqt) (hu : X.A.units + 65 < cLine) {H I : Hp} {k k' : Nat} {x y : V} {v u : Value} {d e : D} {b : Bool} {t : Shared} {Q : Bool → Shared → Prop} (J : Inv X pins σ H t) (rx : RelV x v) (ry : RelV y u) (w : WOk G I H k) (hx : Rep G I x d) (hy : RepB G I H y e) (he : linD eqt d e k = some (b, k'))
    (q : ∀ I' H' t', Inv X pins σ H' t' → Step G I H I' H' k' → Q b t') : wpAny (model X.prog X.w) X.A (contains u v) Q X.xe t := by
  cases e <;> simp only [linD] at he <;> try cases he
  rename_i ys
  obtain ⟨a, us, rfl, h1, r1, st1⟩ := lst_stays w.inH hy
  cases ry
  refine SkyQ.inCall (N := ys.length) (fun i t => i ≤ ys.length ∧ ∃ I1 H1 k1, Inv X pins σ H1 t ∧ Step G I H I1 H1 k1 ∧ inItems eqt d (ys.drop i) k1 = some (b, k')) (fun t => b = true ∧ ∃ I1 H1, Inv X pins σ H1 t ∧ Step G I H I1 H1 k') ?_ ?_ ?_ ⟨Nat.zero_le _, I, H, k, J, Step.refl w, he⟩
  · rintro i t ⟨hi, I1, H1, k1, J1, s1, e1⟩
    obtain ⟨its, _, n, _, z1, _, v1, _⟩ := stand_of (I := I1) (H := H1) (I1 := I1) (k1 := k1) kit J1 (st1 _ _ _ s1) (st1 _ _ _ s1)
    have n1 : its.size = ys.length := by have := v1.length; rw [r1.length] at this; simpa using this.symm
    refine ⟨its, n, z1, n1, fun h => ?_⟩
    have l1 : i < ys.length := by omega
    have l3 : i < us.length := by rw [r1.length]; exact l1
    obtain ⟨p, hp, rp⟩ := v1.get (List.getElem?_eq_getElem l3)
    have ep : its[i] = p := by simpa [h] using hp
    subst ep
    obtain ⟨d2, hd, rd⟩ := r1.getV (List.getElem?_eq_getElem l3)
    rw [drop_at hd] at e1
    obtain ⟨b1, k2, e2, e3⟩ := M.bind_some e1
    refine wpAny_mono (item_ok kit hK hE hu J1 s1.w rp rx (rd.sub s1.sub) (hx.sub s1.sub) e2) (fun r t' ⟨er, I2, H2, J2, s2⟩ => ?_) fun _ _ x => x
    subst er
    cases r with
    | true =>
      obtain ⟨rfl, rfl⟩ := M.pure_some e3
      exact .inr ⟨rfl, rfl, I2, H2, J2, s1.trans s2⟩
    | false => exact .inl ⟨rfl, l1, I2, H2, k2, J2, s1.trans s2, e3⟩
  · rintro t ⟨_, I1, H1, k1, J1, s1, e1⟩
    rw [List.drop_of_length_le (Nat.le_refl _)] at e1
    obtain ⟨rfl, rfl⟩ := M.pure_some e1
    exact q _ _ _ J1 s1
  · rintro t ⟨rfl, I1, H1, J1, s1⟩
    exact q _ _ _ J1 s1
theorem op_lin (kit : KitOk G) (hK : X.K = G.K) (hE : EqOk G X eqt) (hu : X.A.units + 65 < cLine) : OpR X (compareOp .In) (rLin G eqt false) := by
  intro pins s σ H x y v u Q J rx ry h
  obtain ⟨I, k, d, e, b, k', w, hx, hy, he, q⟩ := h
  have hr : ∃ a, u = .ref a := by
    cases e <;> simp only [linD] at he <;> try cases he
    obtain ⟨a, _, rfl, _⟩ := hy.lst w.inH
    cases ry
    exact ⟨a, rfl⟩
  obtain ⟨a, rfl⟩ := hr
  exact SkyQ.inOp (lin_any kit hK hE hu J rx ry w hx hy he fun I' H' t' J' s' => ⟨.bl b, H', J', rfl, by have := q I' H' s'; rw [Bool.false_xor] at this; exact this⟩)
theorem op_lnotIn (kit : KitOk G) (hK : X.K = G.K) (hE : EqOk G X eqt) (hu : X.A.units + 65 < cLine) : OpR X (compareOp .NotIn) (rLin G eqt true) := by
  intro pins s σ H x y v u Q J rx ry h
  obtain ⟨I, k, d, e, b, k', w, hx, hy, he, q⟩ := h
  have hr : ∃ a, u = .ref a := by
    cases e <;> simp only [linD] at he <;> try cases he
    obtain ⟨a, _, rfl, _⟩ := hy.lst w.inH
    cases ry
    exact ⟨a, rfl⟩
  obtain ⟨a, rfl⟩ := hr
  exact SkyQ.notInOp (lin_any kit hK hE hu J rx ry w hx hy he fun I' H' t' J' s' => ⟨.bl (!b), H', J', rfl, by have := q I' H' s'; rw [Bool.true_xor] at this; exact this⟩)

-- ### as expressions and tests 
def dM2 (neg : Bool) (g : D → D → M Bool) (f1 f2 : Sem) : SemB := fun ρ => M.bind (f1 ρ) fun x => M.bind (f2 ρ) fun y => M.bind (g x y) fun b => M.pure (xor neg b)
theorem td_leq {neg : Bool} {f g : Sem} {σ : List (Option V)} {H : Hp} {Q : Bool → Hp → Prop} (hq : tDB G (dM2 neg (leqD eqt) f g) σ H Q) : tOp (rLeq G eqt neg) (tDR G f) (tDR G g) σ H (fun x H' => ∃ k, x = .bl k ∧ Q k H') := by
  obtain ⟨I0, H0, I, k, ρ, d, k', F, e, q⟩ := hq
  obtain ⟨x, k1, e1, e⟩ := M.bind_some e
  obtain ⟨y, k2, e2, e⟩ := M.bind_some e
  obtain ⟨b, k3, e3, e⟩ := M.bind_some e
  obtain ⟨rfl, rfl⟩ := M.pure_some e
  exact ⟨I0, H0, I, k, ρ, x, k1, F, e1, fun I1 H1 v s1 r1 => ⟨I0, H0, I1, k1, ρ, y, k2, F.step s1, e2, fun I2 H2 u s2 r2 => ⟨I2, k2, x, y, b, _, s2.w, r1.step s2, r2, e3, fun I3 H3 s3 => ⟨_, rfl, q I3 H3 ((s1.trans s2).trans s3)⟩⟩⟩⟩
theorem td_lin {neg : Bool} {f g : Sem} {σ : List (Option V)} {H : Hp} {Q : Bool → Hp → Prop} (hq : tDB G (dM2 neg (linD eqt) f g) σ H Q) : tOp (rLin G eqt neg) (tD G f) (tDR G g) σ H (fun x H' => ∃ k, x = .bl k ∧ Q k H') := by
  obtain ⟨I0, H0, I, k, ρ, d, k', F, e, q⟩ := hq
  obtain ⟨x, k1, e1, e⟩ := M.bind_some e
  obtain ⟨y, k2, e2, e⟩ := M.bind_some e
  obtain ⟨b, k3, e3, e⟩ := M.bind_some e
  obtain ⟨rfl, rfl⟩ := M.pure_some e
  exact ⟨I0, H0, I, k, ρ, x, k1, F, e1, fun I1 H1 v s1 r1 => ⟨I0, H0, I1, k1, ρ, y, k2, F.step s1, e2, fun I2 H2 u s2 r2 => ⟨I2, k2, x, y, b, _, s2.w, r1.sub s2.sub, r2, e3, fun I3 H3 s3 => ⟨_, rfl, q I3 H3 ((s1.trans s2).trans s3)⟩⟩⟩⟩
section
variable {a b : Expr} {f g : Sem} (hK : X.K = G.K) (kit : KitOk G) (hE : EqOk G X eqt) (hu : X.A.units + 65 < cLine)
include hK kit hE hu
theorem dt_leq (ha : DR G X a f) (hb : DR G X b g) (hm : behindInMarks .Eq b = false) : DT G X (.Compare a [.Eq] [b] pos) (dM2 false (leqD eqt) f g) := PT.mono (pt_cmpR (op_leq kit hK hE hu) ha hb hm) fun σ H Q hq => td_leq hq
theorem dt_lne (ha : DR G X a f) (hb : DR G X b g) (hm : behindInMarks .NotEq b = false) : DT G X (.Compare a [.NotEq] [b] pos) (dM2 true (leqD eqt) f g) := PT.mono (pt_cmpR (op_lne kit hK hE hu) ha hb hm) fun σ H Q hq => td_leq hq
theorem dt_lin (ha : DE G X a f) (hb : DR G X b g) (hm : behindInMarks .In b = false) : DT G X (.Compare a [.In] [b] pos) (dM2 false (linD eqt) f g) := PT.mono (pt_cmpR (op_lin kit hK hE hu) ha hb hm) fun σ H Q hq => td_lin hq
theorem dt_lnotIn (ha : DE G X a f) (hb : DR G X b g) (hm : behindInMarks .NotIn b = false) : DT G X (.Compare a [.NotIn] [b] pos) (dM2 true (linD eqt) f g) := PT.mono (pt_cmpR (op_lnotIn kit hK hE hu) ha hb hm) fun σ H Q hq => td_lin hq
end
/-- as values -/
theorem td_leqV {neg : Bool} {f g : Sem} {σ : List (Option V)} {H : Hp} {Q : VK} (hq : tD G (dVal (dM2 neg (leqD eqt) f g)) σ H Q) : tOp (rLeq G eqt neg) (tDR G f) (tDR G g) σ H Q := by
  obtain ⟨I0, H0, I, k, ρ, d, k', F, e, q⟩ := td_val hq
  obtain ⟨x, k1, e1, e⟩ := M.bind_some e
  obtain ⟨y, k2, e2, e⟩ := M.bind_some e
  obtain ⟨b, k3, e3, e⟩ := M.bind_some e
  obtain ⟨rfl, rfl⟩ := M.pure_some e
  exact ⟨I0, H0, I, k, ρ, x, k1, F, e1, fun I1 H1 v s1 r1 => ⟨I0, H0, I1, k1, ρ, y, k2, F.step s1, e2, fun I2 H2 u s2 r2 => ⟨I2, k2, x, y, b, _, s2.w, r1.step s2, r2, e3, fun I3 H3 s3 => q I3 H3 ((s1.trans s2).trans s3)⟩⟩⟩
theorem td_linV {neg : Bool} {f g : Sem} {σ : List (Option V)} {H : Hp} {Q : VK} (hq : tD G (dVal (dM2 neg (linD eqt) f g)) σ H Q) : tOp (rLin G eqt neg) (tD G f) (tDR G g) σ H Q := by
  obtain ⟨I0, H0, I, k, ρ, d, k', F, e, q⟩ := td_val hq
  obtain ⟨x, k1, e1, e⟩ := M.bind_some e
  obtain ⟨y, k2, e2, e⟩ := M.bind_some e
  obtain ⟨b, k3, e3, e⟩ := M.bind_some e
  obtain ⟨rfl, rfl⟩ := M.pure_some e
  exact ⟨I0, H0, I, k, ρ, x, k1, F, e1, fun I1 H1 v s1 r1 => ⟨I0, H0, I1, k1, ρ, y, k2, F.step s1, e2, fun I2 H2 u s2 r2 => ⟨I2, k2, x, y, b, _, s2.w, r1.sub s2.sub, r2, e3, fun I3 H3 s3 => q I3 H3 ((s1.trans s2).trans s3)⟩⟩⟩
section
variable {a b : Expr} {f g : Sem} (hK : X.K = G.K) (kit : KitOk G) (hE : EqOk G X eqt) (hu : X.A.units + 65 < cLine)
include hK kit hE hu
theorem de_leq (ha : DR G X a f) (hb : DR G X b g) (hm : behindInMarks .Eq b = false) : DE G X (.Compare a [.Eq] [b] pos) (dVal (dM2 false (leqD eqt) f g)) := PE.mono (pe_cmpR (op_leq kit hK hE hu) ha hb hm) fun σ H Q hq => td_leqV hq
theorem de_lne (ha : DR G X a f) (hb : DR G X b g) (hm : behindInMarks .NotEq b = false) : DE G X (.Compare a [.NotEq] [b] pos) (dVal (dM2 true (leqD eqt) f g)) := PE.mono (pe_cmpR (op_lne kit hK hE hu) ha hb hm) fun σ H Q hq => td_leqV hq
theorem de_lin (ha : DE G X a f) (hb : DR G X b g) (hm : behindInMarks .In b = false) : DE G X (.Compare a [.In] [b] pos) (dVal (dM2 false (linD eqt) f g)) := PE.mono (pe_cmpR (op_lin kit hK hE hu) ha hb hm) fun σ H Q hq => td_linV hq
theorem de_lnotIn (ha : DE G X a f) (hb : DR G X b g) (hm : behindInMarks .NotIn b = false) : DE G X (.Compare a [.NotIn] [b] pos) (dVal (dM2 true (linD eqt) f g)) := PE.mono (pe_cmpR (op_lnotIn kit hK hE hu) ha hb hm) fun σ H Q hq => td_linV hq
end
end
end Sky

end
section
-- SkyU: a list unpacked into names. 
namespace Sky
open PySem PySem.Spec PyProof.Rows L2
section
variable {G : Gh} {X : Cx} {pos : Pos}
/-- a, b, .. = a list of that length -/
def tgLst (n : Nat) (t : Tgs) : Tg := ⟨fun d ρ => match d with
  | .lst ds => (match Nat.beq ds.length n with | true => t.put ds ρ | false => none)
  | _ => none, t.slots⟩
theorem dg_lst {es : List Expr} {x : Nat} {t : Tgs} {n : Nat} (hK : X.K = G.K) (hc : X.calm = true) (h : DGs G X es t) (hn : (assignEach es X.env).length = n) (hst : (assignEach es X.env).findIdx? (·.1) = none) : DG G X (.Tuple es x pos) (tgLst n t) :=
  PG.mono (pg_unl hc h hn hst) fun v σ H Q hq => by
    obtain ⟨I0, H0, I, k, ρ, d, ρ', F, r, e, q⟩ := hq
    cases r <;> simp only [tgLst] at e <;> try cases e
    rename_i a vs ds h r
    cases c : Nat.beq ds.length n with
    | false => rw [c] at e; cases e
    | true =>
      rw [c] at e
      rw [hK]
      exact ⟨a, vs, rfl, SqL.of (F.w.inH _ _ h), by rw [r.length]; exact Nat.eq_of_beq_eq_true c, I0, H0, I, k, ρ, ds, ρ', F, r, e, q⟩
end
end Sky

end
section
-- SkyV: slices by data. 
namespace Sky
open PySem PySem.Spec PyProof.Rows L2
abbrev SemO := Env → M (Option Int)
def dNoPart : SemO := fun _ k => some (none, k)
def dPart (f : Sem) : SemO := fun ρ => M.bind (f ρ) fun x => match x with
  | .int i => M.pure (some i)
  | _ => M.fail
def cutD (xs : List D) (lo hi : Option Int) : List D := (xs.drop (HT.sIx xs.length 0 lo)).take (HT.sIx xs.length xs.length hi - HT.sIx xs.length 0 lo)
def D.cut (lo hi : Option Int) : D → Option D
  | .lst xs => some (.lst (cutD xs lo hi))
  | .tup xs => some (.tup (cutD xs lo hi))
  | _ => none
def dSl (f : Sem) (lo hi : SemO) : Sem := fun ρ => M.bind (f ρ) fun x => M.bind (lo ρ) fun l => M.bind (hi ρ) fun h => M.lift (x.cut l h)
def D.rev : D → Option D
  | .lst xs => some (.lst xs.reverse)
  | _ => none
def tDO (G : Gh) (f : SemO) : TO := fun σ H Q => ∃ I0 H0 I k ρ o k', FI G I0 H0 I H k σ ρ ∧ f ρ k = some (o, k') ∧ ∀ I' H', Step G I H I' H' k' → Q o H'
section
variable {G : Gh} {X : Cx} {e : Expr} {lo hi : Option Expr} {pos p2 p1 p3 : Pos} {kk : Nat}
theorem _root_.L2.PO.mono {X : Cx} {e : Option Expr} {t t' : TO} (h : PO X e t) (w : ∀ σ H Q, t' σ H Q → t σ H Q) : PO X e t' := ⟨fun pins s σ H Q I q => h.run pins s σ H Q I (w σ H Q q)⟩
abbrev DO (G : Gh) (X : Cx) (e : Option Expr) (f : SemO) : Prop := PO X e (tDO G f)
theorem do_none : DO G X none dNoPart := PO.mono po_none fun σ H Q hq => by
  obtain ⟨I0, H0, I, k, ρ, o, k', F, e, q⟩ := hq
  cases e
  exact q I H (Step.refl F.w)
theorem do_some {e : Expr} {f : Sem} (h : DE G X e f) : DO G X (some e) (dPart f) := PO.mono (po_some h) fun σ H Q hq => by
  obtain ⟨I0, H0, I, k, ρ, o, k', F, e, q⟩ := hq
  obtain ⟨x, k1, e1, e2⟩ := M.bind_some e
  cases x <;> try cases e2
  exact ⟨I0, H0, I, k, ρ, _, _, F, e1, fun I1 H1 v s1 r1 => by cases r1; exact ⟨_, rfl, q I1 H1 s1⟩⟩
theorem cut_rep {I : Hp} {vs : List V} {ds : List D} (r : RepL G I vs ds) (lo hi : Option Int) : RepL G I (cutV vs lo hi) (cutD ds lo hi) := by
  unfold cutV cutD
  rw [r.length]
  exact (r.drop _).take _
theorem rev_rep {I : Hp} : ∀ {vs : List V} {ds : List D}, RepL G I vs ds → RepL G I vs.reverse ds.reverse
  | _, _, .nil => .nil
  | _, _, .cons h t => by
    rw [List.reverse_cons, List.reverse_cons]
    exact (rev_rep t).append (.cons h .nil)
theorem cut_whole {xs : List D} {lo hi : Option Int} (h1 : HT.sIx xs.length 0 lo = 0) (h2 : HT.sIx xs.length xs.length hi = xs.length) : cutD xs lo hi = xs := by
  unfold cutD
  rw [h1, h2]
  simp
theorem de_slice {f : Sem} {l h : SemO} (hK : X.K = G.K) (he : DR G X e f) (hl : DO G X lo l) (hh : DO G X hi h) : DE G X (.Subscript e (.Slice lo hi none p2) pos) (dSl f l h) := PE.mono (pe_slice (sl_list.or sl_tupA) he hl hh) fun σ H Q hq => by
  obtain ⟨I0, H0, I, k, ρ, d, k', F, e, q⟩ := hq
  obtain ⟨x, k1, e1, e⟩ := M.bind_some e
  obtain ⟨o1, k2, e2, e⟩ := M.bind_some e
  obtain ⟨o2, k3, e3, e⟩ := M.bind_some e
  obtain ⟨e4, rfl⟩ := M.lift_some e
  refine ⟨I0, H0, I, k, ρ, x, k1, F, e1, fun I1 H1 v s1 r1 => ⟨I0, H0, I1, k1, ρ, o1, k2, F.step s1, e2, fun I2 H2 s2 => ⟨I0, H0, I2, k2, ρ, o2, _, (F.step s1).step s2, e3, fun I3 H3 s3 => ?_⟩⟩⟩
  have r3 := (r1.step s2).step s3
  have sa := (s1.trans s2).trans s3
  rw [hK]
  cases x with
  | tup xs =>
    simp only [D.cut] at e4
    cases e4
    have rr : Rep G I3 v (.tup xs) := by
      rcases r3 with h | ⟨_, _, h, _⟩
      · exact h
      · exact False.elim h
    obtain ⟨a, vs, rfl, h1, r⟩ := r3.tup s3.w.inH
    refine .inr ⟨a, vs, rfl, h1, fun hw => ?_, fun hw p hp => ?_⟩
    · rw [r.length] at hw
      rw [cut_whole hw.1 hw.2] at q
      exact q I3 H3 _ sa rr
    · obtain ⟨s4, r4⟩ := new_tup s3.w hp (cut_rep r o1 o2)
      exact q _ _ _ (sa.trans s4) r4
  | lst xs =>
    simp only [D.cut] at e4
    cases e4
    obtain ⟨a, vs, rfl, h1, r⟩ := r3.lst s3.w.inH
    refine .inl ⟨a, vs, rfl, SqL.of h1, fun p hp => ?_⟩
    obtain ⟨s4, r4⟩ := new_lst s3.w hp (cut_rep r o1 o2)
    exact q _ _ _ (sa.trans s4) r4
  | _ => simp only [D.cut, reduceCtorEq] at e4
theorem de_rev {f : Sem} (hK : X.K = G.K) (he : DR G X e f) : DE G X (.Subscript e (.Slice none none (some (.UnaryOp .USub (.Constant (.int 1) kk p1) p2)) p3) pos) (dUn D.rev f) := PE.mono (pe_revL he) fun σ H Q hq => by
  obtain ⟨I0, H0, I, k, ρ, d, k', F, e, q⟩ := hq
  obtain ⟨x, k1, e1, e⟩ := M.bind_some e
  obtain ⟨e3, rfl⟩ := M.lift_some e
  refine ⟨I0, H0, I, k, ρ, x, _, F, e1, fun I1 H1 v s1 r1 => ?_⟩
  rw [hK]
  cases x with
  | lst xs =>
    simp only [D.rev] at e3
    cases e3
    obtain ⟨a, vs, rfl, h1, r⟩ := r1.lst s1.w.inH
    refine ⟨a, vs, rfl, SqL.of h1, fun p hp => ?_⟩
    obtain ⟨s4, r4⟩ := new_lst s1.w hp (rev_rep r)
    exact q _ _ _ (s1.trans s4) r4
  | _ => simp only [D.rev, reduceCtorEq] at e3
end
end Sky

end
section
-- SkyW: list(range(n)) by data. 
namespace Sky
open PySem PySem.Spec PyProof.Rows L2
def D.lrg : D → Option D
  | .int n => if decide (0 ≤ n) && decide (n ≤ 16777216) then some (.lst (rangeD 0 n.toNat)) else none
  | _ => none
theorem rgV_rep {I : Hp} {G : Gh} (n : Int) : RepL G I (rgV 0 n) (rangeD 0 n.toNat) := by
  unfold rgV
  rw [Int.sub_zero]
  exact range_rep n.toNat 0
section
variable {G : Gh} {X : Cx} {e : Expr} {pos p1 p2 p3 : Pos}
theorem de_lstRg {f : Sem} (hc : X.calm = true) (hl : Gl X "list") (hl2 : X.mg "list" = none) (hg : Gl X "range") (hm : X.mg "range" = none) (he : DE G X e f) (hs : starEach [e] X.env = (false, eval e X.env) :: starEach [] X.env) (hs2 : starEach [Expr.Call (.Name "range" p1) [e] [] p2] X.env = (false, eval (Expr.Call (.Name "range" p1) [e] [] p2) X.env) :: starEach [] X.env) : DE G X (.Call (.Name "list" p3) [.Call (.Name "range" p1) [e] [] p2] [] pos) (dUn D.lrg f) := PE.mono (pe_listRg hc hl hl2 (prg_1 hg hm he hs) hs2) fun σ H Q hq => by
  obtain ⟨I0, H0, I, k, ρ, d, k', F, e, q⟩ := hq
  obtain ⟨x, k1, e1, e⟩ := M.bind_some e
  obtain ⟨e3, rfl⟩ := M.lift_some e
  refine ⟨I0, H0, I, k, ρ, x, _, F, e1, fun I1 H1 v s1 r1 => ?_⟩
  cases x <;> simp only [D.lrg] at e3 <;> try cases e3
  rename_i n
  by_cases c : (decide (0 ≤ n) && decide (n ≤ 16777216)) = true
  · rw [if_pos c] at e3; cases e3
    have c2 := Bool.and_eq_true_iff.mp c
    have c3 := of_decide_eq_true c2.1
    have c4 := of_decide_eq_true c2.2
    cases r1
    refine ⟨n, rfl, RgOk.of_le (Int.le_refl 0) c4 (by decide) c3, fun p hp => ?_⟩
    obtain ⟨s2, r2⟩ := new_lst s1.w hp (rgV_rep n)
    exact q _ _ _ (s1.trans s2) r2
  · rw [if_neg c] at e3; cases e3
end
end Sky

end
section
-- SkyX: starred displays, how many unlike rows, sorted whole numbers, own lists that are taken from. 
namespace Sky
open PySem PySem.Spec PyProof.Rows L2
def starD : D → Option (List D)
  | .tup xs => some xs
  | .lst xs => some xs
  | _ => none
def dStar (f : Sem) (g : SemL) : SemL := fun ρ => M.bind (f ρ) fun x => match starD x with
  | some xs => M.bind (g ρ) fun ys => M.pure (xs ++ ys)
  | none => M.fail
def tupI : D → Option (List Int)
  | .tup xs => intsD xs
  | _ => none
def tupsI : List D → Option (List (List Int))
  | [] => some []
  | d :: ds => match tupI d, tupsI ds with
    | some n, some ns => some (n :: ns)
    | _, _ => none
def dedupI : List (List Int) → List (List Int)
  | [] => []
  | x :: xs => if x ∈ xs then dedupI xs else x :: dedupI xs
theorem mem_dedupI {x : List Int} : ∀ {ls : List (List Int)}, x ∈ dedupI ls ↔ x ∈ ls
  | [] => Iff.rfl
  | y :: ys => by
    unfold dedupI
    by_cases h : y ∈ ys
    · rw [if_pos h, mem_dedupI, List.mem_cons]
      exact ⟨.inr, fun z => z.elim (fun z => by rw [z]; exact h) id⟩
    · rw [if_neg h, List.mem_cons, List.mem_cons, mem_dedupI]
theorem nodup_dedupI : ∀ {ls : List (List Int)}, (dedupI ls).Nodup
  | [] => List.nodup_nil
  | y :: ys => by
    unfold dedupI
    by_cases h : y ∈ ys
    · rw [if_pos h]; exact nodup_dedupI
    · rw [if_neg h]; exact List.nodup_cons.mpr ⟨fun z => h (mem_dedupI.mp z), nodup_dedupI⟩
def unlike (ls : List (List Int)) : Nat := (dedupI ls).length
def D.lenSet : D → Option D
  | .lst xs => match tupsI xs with
    | some ls => if decide (ls.length < 64) then some (.int (unlike ls : Nat)) else none
    | none => none
  | _ => none
section
variable {G : Gh} {X : Cx} {e : Expr} {es : List Expr} {pos p p1 p2 p3 : Pos}
theorem da_star {f : Sem} {g : SemL} (hK : X.K = G.K) (ha : DE G X e f) (hr : DA G X es g) (hs : starEach (.Starred e p :: es) X.env = (true, eval e X.env) :: starEach es X.env) : DA G X (.Starred e p :: es) (dStar f g) := PA.mono (StX.pa_star ha hr hs) fun σ H Q hq => by
  obtain ⟨I0, H0, I, k, ρ, d, k', F, e, q⟩ := hq
  obtain ⟨x, k1, e1, e⟩ := M.bind_some e
  cases hx : starD x with
  | none => rw [hx] at e; cases e
  | some xs =>
    rw [hx] at e
    obtain ⟨y, k2, e2, e⟩ := M.bind_some e
    obtain ⟨rfl, rfl⟩ := M.pure_some e
    refine ⟨I0, H0, I, k, ρ, x, k1, F, e1, fun I1 H1 v s1 r1 => ?_⟩
    rw [hK]
    cases x with
    | tup zs =>
      cases hx
      cases r1 with
      | tup h r =>
      rename_i a vs
      exact ⟨a, vs, rfl, .inl (sqT_sub s1.w.inH h), ⟨I0, H0, I1, k1, ρ, y, _, F.step s1, e2, fun I2 H2 u s2 r2 => q I2 H2 _ (s1.trans s2) ((r.sub s2.sub).append r2)⟩⟩
    | lst zs =>
      cases hx
      cases r1 with
      | lst h r =>
      rename_i a vs
      exact ⟨a, vs, rfl, .inr (SqL.of (s1.w.inH _ _ h)), ⟨I0, H0, I1, k1, ρ, y, _, F.step s1, e2, fun I2 H2 u s2 r2 => q I2 H2 _ (s1.trans s2) ((r.sub s2.sub).append r2)⟩⟩
    | _ => cases hx
theorem tups_rep {I H : Hp} (w : Sub I H) : ∀ {vs : List V} {ds : List D} {ls : List (List Int)}, RepL G I vs ds → tupsI ds = some ls → ∃ ks : List (Addr × List Int), vs = ks.map (fun p => V.ref p.1) ∧ ks.map (·.2) = ls ∧ ∀ p ∈ ks, SqT G.K H p.1 (p.2.map V.int)
  | _, _, _, .nil, e => by cases e; exact ⟨[], rfl, rfl, fun _ h => by cases h⟩
  | _, _, ls, .cons (d := d) (ds := ds) h t, e => by
    unfold tupsI at e
    cases h1 : tupI d with
    | none => rw [h1] at e; cases e
    | some n =>
      cases h2 : tupsI ds with
      | none => rw [h1, h2] at e; cases e
      | some ns =>
        rw [h1, h2] at e
        cases e
        obtain ⟨ks, e1, e2, e3⟩ := tups_rep w t h2
        cases d with
        | tup xs =>
          cases h with
          | tup g r =>
            rename_i a us
            have e4 := ints_rep r (show intsD xs = some n from h1)
            refine ⟨(a, n) :: ks, by rw [List.map_cons, e1], by rw [List.map_cons, e2], fun p hp => ?_⟩
            rcases List.mem_cons.mp hp with z | hp
            · rw [z, ← e4]; exact sqT_sub w g
            · exact e3 p hp
        | _ => cases h1
def tLenSetT (K : PySem.W.Frag) (ta : TE) : TE := fun σ H Q => ta σ H fun x H1 => ∃ (l : Addr) (ks : List (Addr × List Int)), x = V.ref l ∧ SqL K H1 l (ks.map fun p => V.ref p.1) ∧ (∀ p ∈ ks, SqT K H1 p.1 (p.2.map V.int)) ∧ ks.length < 64 ∧ Q (.int (unlike (ks.map (·.2)) : Nat)) H1
theorem unlike_eq {L : List (List Int)} {ls : List (List Int)} (nd : L.Nodup) (h : ∀ x, x ∈ L ↔ x ∈ ls) : L.length = unlike ls := by
  unfold unlike
  have p : L.Perm (dedupI ls) := (List.perm_ext_iff_of_nodup nd nodup_dedupI).mpr fun x => by rw [h, mem_dedupI]
  exact p.length_eq
theorem pe_lenSetT {a : Expr} {ta : TE} {q : Pos} (hc : X.calm = true) (hu : X.A.units + 3 < cLine) (hg : Gl X "len") (hm : X.mg "len" = none) (hg2 : Gl X "set") (hm2 : X.mg "set" = none) (ha : PE X a ta)
    (na : starEach [a] X.env = (false, eval a X.env) :: starEach [] X.env) : PE X (.Call (.Name "len" p) [.Call (.Name "set" p2) [a] [] q] [] pos) (tLenSetT X.K ta) := by
  refine ⟨fun pins s σ H Q I h => ?_⟩
  refine Call_ (ld_blt I hg hm PySem.boot_len ?_)
  refine PyProof.Rows.callWith_builtin1 (PyProof.Rows.args_cons ?_ rfl) rfl rfl
  refine Call_ (ld_blt I hg2 hm2 PyProof.Rows.boot_set ?_)
  refine PyProof.Rows.callWith_type1 (PyProof.Rows.args_cons (thn (ha.run pins s σ H _ I h) fun v s1 ⟨x, H1, I1, r1, q1⟩ => PyProof.Rows.args_nil ?_) na) na rfl
  obtain ⟨l, ks, rfl, hq, hk, hf, q1⟩ := q1
  cases r1
  obtain ⟨its, r, pl, hz⟩ := I1.list hq
  refine call_set_tups (P := X.prog) (w := X.w) ks (I1.ok.hd hc) pl.isList (by simpa using refs_of_vals r) (fun p hp => I1.isT (hk p hp)) hf hu fun h' tk L es ep t R g k => ?_
  have R' : SetTR X.prog X.w (Shared.heap { s1 with heap := h', toks := tk }) s1.heap.objs.size L es ep t := R
  have el : es.size = unlike (ks.map (·.2)) := by
    rw [R'.size, ← List.length_map (f := (·.2)) (as := L)]
    refine unlike_eq R.nd fun x => ?_
    constructor
    · intro hx
      obtain ⟨p, hp, rfl⟩ := List.mem_map.mp hx
      exact List.mem_map.mpr ⟨p, List.mem_of_mem_take (g.sub p hp), rfl⟩
    · intro hx
      obtain ⟨p, hp, rfl⟩ := List.mem_map.mp hx
      exact g.all p (by rw [List.take_length]; exact hp)
  have I2 : Inv X pins σ H1 { s1 with heap := h', toks := tk } := I1.kept k
  obtain ⟨o, ho, hex, hd⟩ := R.ob
  refine PyProof.Rows.args_nil ?_
  refine call_len_set ho hex hd R'.fits (by have := R.few; rw [R'.size]; omega) ⟨.int es.size, H1, I2.tok _, ⟨_, rfl⟩, ?_⟩
  rw [el]
  exact q1
theorem de_lenSet {f : Sem} {q : Pos} (hK : X.K = G.K) (hc : X.calm = true) (hu : X.A.units + 65 < cLine) (hg : Gl X "len") (hm : X.mg "len" = none) (hg2 : Gl X "set") (hm2 : X.mg "set" = none) (he : DE G X e f)
    (na : starEach [e] X.env = (false, eval e X.env) :: starEach [] X.env) : DE G X (.Call (.Name "len" p) [.Call (.Name "set" p2) [e] [] q] [] pos) (dUn D.lenSet f) := PE.mono (pe_lenSetT hc (by omega) hg hm hg2 hm2 he na) fun σ H Q hq => by
  obtain ⟨I0, H0, I, k, ρ, d, k', F, e, q⟩ := hq
  obtain ⟨x, k1, e1, e⟩ := M.bind_some e
  obtain ⟨e3, rfl⟩ := M.lift_some e
  refine ⟨I0, H0, I, k, ρ, x, _, F, e1, fun I1 H1 v s1 r1 => ?_⟩
  rw [hK]
  cases x with
  | lst xs =>
    simp only [D.lenSet] at e3
    cases h : tupsI xs with
    | none => rw [h] at e3; cases e3
    | some ls =>
      rw [h] at e3
      by_cases c : decide (ls.length < 64) = true
      · simp only [if_pos c] at e3
        cases e3
        cases r1 with
        | lst hI r =>
        rename_i a vs
        have h1 := s1.w.inH _ _ hI
        obtain ⟨ks, g1, g2, g3⟩ := tups_rep s1.w.inH r h
        rw [← g2] at c
        refine ⟨a, ks, rfl, by rw [← g1]; exact SqL.of h1, g3, by simpa using of_decide_eq_true c, ?_⟩
        rw [g2]
        exact q _ _ _ s1 (.int _)
      · simp only [if_neg c] at e3
        cases e3
  | _ => simp only [D.lenSet, reduceCtorEq] at e3
end
end Sky

end
section
-- SkyY: sorted whole numbers; own lists that are taken from, made by +, made three at once. 
namespace Sky
open PySem PySem.Spec PyProof.Rows L2
def insI (x : Int) : List Int → List Int
  | [] => [x]
  | y :: ys => if x ≤ y then x :: y :: ys else y :: insI x ys
def sortI : List Int → List Int
  | [] => []
  | x :: xs => insI x (sortI xs)
theorem insI_perm (x : Int) : ∀ ys : List Int, (insI x ys).Perm (x :: ys)
  | [] => List.Perm.refl _
  | y :: ys => by
    unfold insI
    by_cases h : x ≤ y
    · rw [if_pos h]
    · rw [if_neg h]
      exact ((insI_perm x ys).cons y).trans (List.Perm.swap x y ys)
theorem sortI_perm : ∀ xs : List Int, (sortI xs).Perm xs
  | [] => List.Perm.refl _
  | x :: xs => (insI_perm x _).trans ((sortI_perm xs).cons x)
theorem insI_pw (x : Int) : ∀ {ys : List Int}, ys.Pairwise (· ≤ ·) → (insI x ys).Pairwise (· ≤ ·)
  | [], _ => List.pairwise_singleton _ _
  | y :: ys, h => by
    obtain ⟨h1, h2⟩ := List.pairwise_cons.mp h
    unfold insI
    by_cases c : x ≤ y
    · rw [if_pos c]
      exact List.pairwise_cons.mpr ⟨fun z hz => by
        rcases List.mem_cons.mp hz with e | hz
        · rw [e]; exact c
        · exact Int.le_trans c (h1 z hz), h⟩
    · rw [if_neg c]
      exact List.pairwise_cons.mpr ⟨fun z hz => by
        rcases List.mem_cons.mp ((insI_perm x ys).mem_iff.mp hz) with e | hz
        · rw [e]; omega
        · exact h1 z hz, insI_pw x h2⟩
theorem sortI_pw : ∀ xs : List Int, (sortI xs).Pairwise (· ≤ ·)
  | [] => List.Pairwise.nil
  | x :: xs => insI_pw x (sortI_pw xs)
theorem sorted_one : ∀ {xs ys : List Int}, xs.Perm ys → xs.Pairwise (· ≤ ·) → ys.Pairwise (· ≤ ·) → xs = ys
  | [], ys, p, _, _ => p.nil_eq
  | x :: xs, [], p, _, _ => absurd p.length_eq (by simp)
  | x :: xs, y :: ys, p, h1, h2 => by
    obtain ⟨a1, a2⟩ := List.pairwise_cons.mp h1
    obtain ⟨b1, b2⟩ := List.pairwise_cons.mp h2
    have e : x = y := by
      have m1 : x ∈ y :: ys := p.mem_iff.mp List.mem_cons_self
      have m2 : y ∈ x :: xs := p.mem_iff.mpr List.mem_cons_self
      rcases List.mem_cons.mp m1 with e | m1
      · exact e
      · rcases List.mem_cons.mp m2 with e | m2
        · exact e.symm
        · have := b1 x m1; have := a1 y m2; omega
    subst e
    rw [sorted_one ((List.perm_cons x).mp p) a2 b2]
def bSorted : List D → Option D
  | [.lst xs] => match intsD xs with
    | some ns => if decide (ns.length < 64) then some (.lst ((sortI ns).map .int)) else none
    | none => none
  | _ => none
section
variable {G : Gh} {X : Cx} {e o : Expr} {es : List Expr} {pos p0 p1 p2 py apos cpos : Pos}
theorem ints_RepL {I : Hp} : ∀ ns : List Int, RepL G I (ns.map V.int) (ns.map D.int)
  | [] => .nil
  | n :: ns => .cons (.int n) (ints_RepL ns)
theorem bSorted_ok : RDA G (rSorted G.K) bSorted := by
  intro I H k vs ds z Q w hv hz q
  match ds, hv, hz with
  | [.lst xs], hv, hz =>
    simp only [bSorted] at hz
    cases h : intsD xs with
    | none => rw [h] at hz; cases hz
    | some ns =>
      rw [h] at hz
      by_cases c : decide (ns.length < 64) = true
      · simp only [if_pos c] at hz
        cases hz
        obtain ⟨v, rfl, r⟩ := paired1 hv
        obtain ⟨a, us, rfl, h1, rr⟩ := r.lst w.inH
        have e := ints_rep rr h
        subst e
        refine ⟨a, ns, rfl, SqL.of h1, of_decide_eq_true c, fun ns' p hp hw hn => ?_⟩
        have e : ns' = sortI ns := sorted_one (hp.trans (sortI_perm ns).symm) hw (sortI_pw ns)
        subst e
        obtain ⟨s4, r4⟩ := new_lst w hn (ints_RepL (G := G) (I := I) (sortI ns))
        exact q _ _ _ s4 r4
      · simp only [if_neg c] at hz
        cases hz
/-- x = y.pop(0), y an own list -/
def sPop0 (i j : Nat) : SemS := fun ρ k => match ρ[i]? with
  | some (Slot.own (.lst (d :: ds))) => if j < ρ.length then some (.nx ((ρ.set i (.own (.lst ds))).set j (.val d)), k) else none
  | _ => none
theorem ds_pop0 {i j kk : Nat} {x : Str} (ho : PE X o (tVar i)) (hst : starEach [Expr.Constant (.int 0) kk p0] X.env = (false, eval (Expr.Constant (.int 0) kk p0) X.env) :: starEach [] X.env)
    (hbase : attributeBase o "pop" X.env (eval o X.env) = eval o X.env)
    (hfew : ((backTo cpos (starEach [Expr.Constant (.int 0) kk p0] X.env)).all (fun x => !x.1) && (backToKw cpos (keywordEach [] X.env)).all (fun x => x.1.isSome)
      && decide (([Expr.Constant (.int 0) kk p0]).length + ([] : List Keyword).length + (if ([] : List Keyword).isEmpty then 0 else 1) < 30)) = true)
    (hline : (apos.endLine == cpos.line) = true) (hplain : (backTo cpos (starEach [] X.env)).any (·.1) = false)
    (h : ∀ te, PE X (.Call (.Attribute o "pop" apos) [.Constant (.int 0) kk p0] [] cpos) te → PS X (.Assign [.Name x py] (.Call (.Attribute o "pop" apos) [.Constant (.int 0) kk p0] [] cpos) pos) (tAsg te (gName j))) :
    DS G X (.Assign [.Name x py] (.Call (.Attribute o "pop" apos) [.Constant (.int 0) kk p0] [] cpos) pos) (sPop0 i j) :=
  PS.mono (h _ (pe_bm PySem.F.plainAttrs_list PySem.F.slot_list_pop PySem.F.type_list_pop mt_popAt ho (pa_cons pe_int pa_nil hst) hbase hfew hline hst hplain)) fun D σ H hq => by
  obtain ⟨I0, H0, I, k, ρ, o, k', F, e, q⟩ := hq
  unfold sPop0 at e
  cases c0 : ρ[i]? with
  | none => rw [c0] at e; cases e
  | some sl =>
    rw [c0] at e
    cases sl with
    | own l =>
      cases l with
      | lst ds =>
        cases ds with
        | nil => cases e
        | cons d ds =>
          simp only at e
          by_cases c : j < ρ.length
          · rw [if_pos c] at e
            cases e
            obtain ⟨a, g1, ⟨vs, hH, r⟩, g3, g4, g5⟩ := F.own i _ c0
            cases r with
            | cons r0 rs =>
              rename_i v us
              refine ⟨.ref a, g1, ?_, ?_⟩
              · exact .inl ⟨rfl, _, .inl (.inl hH)⟩
              · refine ⟨a, v :: us, 0, 0, v, rfl, rfl, hH, by decide, by decide, ?_, rfl, ?_⟩
                · show seqIndex? 0 (us.length + 1) = some 0
                  unfold seqIndex?
                  simp
                · exact q _ _ _ ((F.ownSet c0 g1 g3 g4 g5 ⟨_, hH⟩ rs).set j r0) (fun _ _ e => e)
          · rw [if_neg c] at e; cases e
      | _ => cases e
    | _ => cases e
end
end Sky

end
section
-- SkyZ: own lists made by +, and two of them told beside a value. 
namespace Sky
open PySem PySem.Spec PyProof.Rows L2
section
variable {G : Gh} {I0 H0 I H : Hp} {k : Nat} {σ : List (Option V)} {ρ : Env}
/-- a list that lies there, that no name holds yet, is a name's own -/
theorem FI.ownAt (F : FI G I0 H0 I H k σ ρ) {i : Nat} {es : List D} {a : Addr} {ws : List V} (hi : i < ρ.length) (hH : H a = some (.lst ws)) (hI : I a = none) (h0 : H0 a = none) (hd : G.da ≠ some a)
    (hf : ∀ (j : Nat) (e : D), ρ[j]? = some (.own e) → σ[j]? ≠ some (some (.ref a))) (r : RepL G I ws es) : FI G I0 H0 I H k (σ.set i (some (.ref a))) (ρ.set i (.own (.lst es))) := by
  refine ⟨F.st, by simpa using F.len, fun j e h => ?_, fun j e h => ?_, fun j l e1 e2 b q1 q2 q3 q4 => ?_, fun j c' es h => ?_, fun j l c1 c2 d1 d2 q1 q2 => ?_⟩
  · rcases set_get h with ⟨rfl, e1⟩ | ⟨ne, h⟩
    · cases e1
    · obtain ⟨v, g1, g2⟩ := F.val j e h
      exact ⟨v, by rw [List.getElem?_set_ne (Ne.symm ne)]; exact g1, g2⟩
  · rcases set_get h with ⟨rfl, e1⟩ | ⟨ne, h⟩
    · cases e1
      exact ⟨a, by rw [List.getElem?_set_self (by rw [F.len]; exact hi)], ⟨ws, hH, r⟩, hI, h0, hd⟩
    · obtain ⟨b, g1, g2⟩ := F.own j e h
      exact ⟨b, by rw [List.getElem?_set_ne (Ne.symm ne)]; exact g1, g2⟩
  · rcases set_get q1 with ⟨rfl, e⟩ | ⟨ne, q1'⟩
    · rcases set_get q2 with ⟨rfl, e'⟩ | ⟨ne2, q2⟩
      · rfl
      · rw [List.getElem?_set_self (by rw [F.len]; exact hi)] at q3
        cases q3
        rw [List.getElem?_set_ne (Ne.symm ne2)] at q4
        exact absurd q4 (hf _ _ q2)
    · rcases set_get q2 with ⟨rfl, e'⟩ | ⟨ne2, q2⟩
      · rw [List.getElem?_set_self (by rw [F.len]; exact hi)] at q4
        cases q4
        rw [List.getElem?_set_ne (Ne.symm ne)] at q3
        exact absurd q3 (hf _ _ q1')
      · rw [List.getElem?_set_ne (Ne.symm ne)] at q3
        rw [List.getElem?_set_ne (Ne.symm ne2)] at q4
        exact F.dis _ _ _ _ b q1' q2 q3 q4
  · rcases set_get h with ⟨rfl, e1⟩ | ⟨ne, h⟩
    · cases e1
    · obtain ⟨x, dx, C, vs, h1, h2, h3⟩ := F.me j _ _ h
      exact ⟨x, dx, C, vs, h1, by rw [List.getElem?_set_ne (Ne.symm ne)]; exact h2, h3⟩
  · rcases set_get q1 with ⟨rfl, e⟩ | ⟨ne, q1⟩
    · cases e
    · rcases set_get q2 with ⟨rfl, e⟩ | ⟨ne2, q2⟩
      · cases e
      · exact F.one _ _ _ _ _ _ q1 q2
end
section
variable {G : Gh} {X : Cx} {a b e : Expr} {es fs : List Expr} {pos p0 p1 p2 py : Pos}
/-- x = a + b, lists: a list that this name alone holds -/
def sOwnAdd (f g : Sem) (i : Nat) : SemS := fun ρ => M.bind (f ρ) fun x => M.bind (g ρ) fun y => match x, y with
  | .lst xs, .lst ys => if xs.length + ys.length ≤ 1000000 ∧ i < ρ.length then M.pure (.nx (ρ.set i (.own (.lst (xs ++ ys))))) else M.fail
  | _, _ => M.fail
theorem ds_ownAdd {f g : Sem} {i : Nat} {x : Str} (ha : DR G X a f) (hb : DR G X b g) (h : ∀ te, PE X (.BinOp a .Add b p0) te → PS X (.Assign [.Name x py] (.BinOp a .Add b p0) pos) (tAsg te (gName i))) (hK : X.K = G.K) :
    DS G X (.Assign [.Name x py] (.BinOp a .Add b p0) pos) (sOwnAdd f g i) := PS.mono (h _ (pe_op op_addD ha hb)) fun D σ H hq => by
  obtain ⟨I0, H0, I, k, ρ, o, k', F, e, q⟩ := hq
  obtain ⟨x, k1, e1, e⟩ := M.bind_some e
  obtain ⟨y, k2, e2, e⟩ := M.bind_some e
  refine ⟨I0, H0, I, k, ρ, x, k1, F, e1, fun I1 H1 v s1 r1 => ⟨I0, H0, I1, k1, ρ, y, _, F.step s1, e2, fun I2 H2 u s2 r2 => ?_⟩⟩
  rw [hK]
  have r1' := r1.step s2
  cases x with
  | lst xs =>
    cases y with
    | lst ys =>
      simp only at e
      by_cases c : xs.length + ys.length ≤ 1000000 ∧ i < ρ.length
      · rw [if_pos c] at e
        obtain ⟨rfl, rfl⟩ := M.pure_some e
        obtain ⟨a, vs, rfl, h1, g1⟩ := r1'.lst s2.w.inH
        obtain ⟨b, ws, rfl, h2, g2⟩ := r2.lst s2.w.inH
        refine .inr (.inr ⟨a, b, vs, ws, rfl, rfl, h1, h2, by rw [g1.length, g2.length, sizeLine_eq]; omega, fun p hp => ?_⟩)
        exact q _ _ _ (((F.step s1).step s2).ownNew c.2 hp (g1.append g2)) (fun _ _ e => s2.sub _ _ (s1.sub _ _ e))
      · rw [if_neg c] at e; cases e
    | _ => cases e
  | _ => cases e
/-- x, y, z = e, [..], [..] -/
def sPar3o (i j l : Nat) (f : Sem) (g h : SemL) : SemS := fun ρ => M.bind (f ρ) fun x => M.bind (g ρ) fun ys => M.bind (h ρ) fun zs =>
  if (ys.length ≤ 1000000 ∧ zs.length ≤ 1000000) ∧ (i < ρ.length ∧ j < ρ.length ∧ l < ρ.length) ∧ (i ≠ j ∧ i ≠ l ∧ j ≠ l) then M.pure (.nx (((ρ.set i (.val x)).set j (.own (.lst ys))).set l (.own (.lst zs)))) else M.fail
theorem ds_par3o {st : Stmt} {i j l : Nat} {f : Sem} {g h : SemL} (he : DE G X e f) (hg : DA G X es g) (hh : DA G X fs h) (h1 : starEach [e, .List es p1, .List fs p2] X.env = (false, eval e X.env) :: starEach [.List es p1, .List fs p2] X.env)
    (h2 : starEach [.List es p1, .List fs p2] X.env = (false, eval (.List es p1) X.env) :: starEach [.List fs p2] X.env) (h3 : starEach [.List fs p2] X.env = (false, eval (.List fs p2) X.env) :: starEach [] X.env)
    (hs : ∀ ta, PA X [e, .List es p1, .List fs p2] ta → PS X st (tPar3 i j l ta)) : DS G X st (sPar3o i j l f g h) :=
  PS.mono (hs _ (pa_cons he (pa_cons (pe_lst hg) (pa_cons (pe_lst hh) pa_nil h3) h2) h1)) fun D σ H hq => by
  obtain ⟨I0, H0, I, k, ρ, o, k', F, e, q⟩ := hq
  obtain ⟨x, k1, e1, e⟩ := M.bind_some e
  obtain ⟨ys, k2, e2, e⟩ := M.bind_some e
  obtain ⟨zs, k3, e3, e⟩ := M.bind_some e
  by_cases c : (ys.length ≤ 1000000 ∧ zs.length ≤ 1000000) ∧ (i < ρ.length ∧ j < ρ.length ∧ l < ρ.length) ∧ (i ≠ j ∧ i ≠ l ∧ j ≠ l)
  · rw [if_pos c] at e
    obtain ⟨rfl, rfl⟩ := M.pure_some e
    obtain ⟨⟨c1, c2⟩, ⟨ci, cj, cl⟩, ⟨nij, nil_, njl⟩⟩ := c
    refine ⟨I0, H0, I, k, ρ, x, k1, F, e1, fun I1 H1 v s1 r1 => ⟨I0, H0, I1, k1, ρ, ys, _, F.step s1, e2, fun I2 H2 us s2 r2 => ⟨by rw [r2.length, sizeLine_eq]; omega, fun p hp => ?_⟩⟩⟩
    have F2 := (F.step s1).step s2
    have sj : Step G I2 H2 I2 (upd H2 p (.lst us)) k2 := Step.junk F2.w hp
    have F3 := F2.step sj
    refine ⟨I0, H0, I2, k2, ρ, zs, _, F3, e3, fun I3 H3 ws s3 r3 => ⟨by rw [r3.length, sizeLine_eq]; omega, fun p' hp' => ?_⟩⟩
    have hd : G.da ≠ some p := F2.w.ne hp
    have hI2 : I2 p = none := by
      cases q : I2 p with
      | none => rfl
      | some o => have := F2.w.inH p o q; rw [hp] at this; cases this
    have h0 : H0 p = none := by
      cases q : H0 p with
      | none => rfl
      | some o => have := F2.st.same p o q hd; rw [hp] at this; cases this
    have hH3 : H3 p = some (.lst us) := s3.same p _ (by rw [upd_same]) hd
    have hI3 : I3 p = none := by
      cases q : I3 p with
      | none => rfl
      | some o =>
        rcases s3.new p o q with z | z
        · rw [hI2] at z; cases z
        · rw [upd_same] at z; cases z
    have F4 := F3.step s3
    have F5 := F4.set i ((r1.sub s2.sub).sub s3.sub)
    have free : ∀ (m : Nat) (e : Sky.D), (ρ.set i (.val x))[m]? = some (.own e) → (σ.set i (some v))[m]? ≠ some (some (.ref p)) := fun m e hm z => by
      rcases set_get hm with ⟨rfl, e1⟩ | ⟨ne, hm⟩
      · cases e1
      · rw [List.getElem?_set_ne (Ne.symm ne)] at z
        obtain ⟨b, g1, g2, _⟩ := F2.own m e hm
        rw [z] at g1; cases g1
        obtain ⟨o, ho⟩ := g2.there
        rw [hp] at ho; cases ho
    have F6 := F5.ownAt (i := j) (by rw [List.length_set]; exact cj) hH3 hI3 h0 hd free (r2.sub s3.sub)
    have F7 := F6.ownNew (i := l) (by rw [List.length_set, List.length_set]; exact cl) hp' r3
    exact ⟨v, .ref p, .ref p', rfl, q _ _ _ F7 (fun _ _ e => s3.sub _ _ (s2.sub _ _ (s1.sub _ _ e)))⟩
  · rw [if_neg c] at e; cases e
end
end Sky

end
section
-- SkyAA: bool of an instance. 
namespace PySem
open Sem (wp)
section
variable {prog : Program} {w : World} {A : Around} {E : Value → Shared → Prop} {s : Shared}
theorem sky_bool_new (a : Addr) : MeetsIn prog w (Builtin.«bool.__new__» ⟨[.type "bool", .ref a], []⟩) (fun A R s => wpAny (model prog w) A.in1 (truthy (.ref a)) (fun b s' => R (.ok (.ret (.bool b))) s') (fun e s' => R (.error e) s') s) :=
  .of_wp fun A R s hs => by
    obtain ⟨hp, g, d, tk, os⟩ := s
    have f1 := F.conv_sub_bool
    repeat (any_goals (first | assumption | (with_reducible refine wpAny_mono hs (fun b s' q => ?_) (fun _ _ z => z)) | wp_step))
    all_goals first | exact ⟨_, rfl, q⟩ | skip
theorem sky_call_bool {a : Addr} {Q : Value → Shared → Prop} (h : wpAny (model prog w) A.in1.in1 (truthy (.ref a)) (fun b s' => Q (.bool b) s') E s) : wpAny (model prog w) A (call (.type "bool") [.ref a]) Q E s :=
  callType_newIn F.called_bool F.newNe_bool (F.typeCall_bool_1 _) (F.newCall_bool_1 _) (fun obj => F.args_object_init_2 obj _) F.entry_bool_new (sky_bool_new a) (wpAny_mono h (fun b s' q => ⟨rfl, q⟩) fun _ _ z => z)
end
end PySem
namespace Sky
open PySem PySem.Spec PyProof.Rows L2
def BoOk (G : Gh) (X : Cx) (bt : Eqt) : Prop := ∀ c F C, bt c = some F → G.cls c = some C →
  ∃ (j : Nat) (f : Addr) (fd : FuncData) (ps : List Str), Meth X.K C "__bool__" f ∧ FnOk X.prog X.w X.K X.mg X.base CX0 j f fd ps (spM G 1 F) ∧ Room (j + 2) X.A ∧ Binds X.K fd ps []
def rBoI (G : Gh) (bt : Eqt) : List V → Hp → VK → Prop := fun vs H Q => ∃ a C dx fs c F, vs = [V.ref a] ∧ H a = some (.ins C dx fs) ∧ G.cls c = some C ∧ bt c = some F ∧ spM G 1 F [V.ref a] H (fun v H' => ∃ b, v = .bl b ∧ Q (.bl b) H') E0
section
variable {G : Gh} {X : Cx} {e : Expr} {pos p : Pos} {bt : Eqt}
theorem cr_boI (hB : BoOk G X bt) : CallR X (.type "bool") (rBoI G bt) := by
  intro pins s σ H vs us Q I r hq
  obtain ⟨a, C, dx, fs, c, F, rfl, ha, hC, hF, hsp⟩ := hq
  obtain ⟨u, rfl, ru⟩ := Vals.one r
  cases ru
  obtain ⟨mA, J, _⟩ := ins_get I.hok ha
  obtain ⟨od, J, _⟩ := J.look
  obtain ⟨m, hFr⟩ := I.fr
  obtain ⟨j, f, fd, ps, hM, hok, hr, hb⟩ := hB c F C hF hC
  refine sky_call_bool ?_
  refine PySem.W.truthy_K hFr I.ok.mod.kin J hM.at_ hM.fn ?_
  have hl := hok.len _ _ _ _ hsp
  have r2 : Vals [V.ref a] [Value.ref a] := .cons rfl .nil
  have hb2 := hb s [.ref a] I.kIn (by rw [List.append_nil, ← r2.length]; exact hl)
  rw [List.append_nil] at hb2
  refine wpAny_call (codeAny_mono (hok.run X.A.in1.in1 X.stack s H ⟨[.ref a], []⟩ [.ref a] [V.ref a] (fun v H' => ∃ b, v = .bl b ∧ Q (.bl b) H') E0 hr.in1.in1 I.env0.in1.in1 hb2 r2 hsp) fun r s' hq => ?_)
  cases r with
  | error e => exact pass0 pins σ H s e s' I hq
  | ok fl =>
    cases fl with
    | ret w =>
      obtain ⟨z, H1, I1, rz, b, e, q⟩ := I.after hq
      subst e
      cases rz
      exact ⟨.bl b, H1, I1, rfl, q⟩
    | next => exact False.elim hq
    | brk => exact False.elim hq
    | cont => exact False.elim hq
/-- bool(e), e an instance -/
def dBoI (bt : Eqt) (f : Sem) : Sem := fun ρ => M.bind (f ρ) fun x => match x with
  | .ins c fs => (match bt c with
    | some F => M.bind (F [.ins c fs]) fun r => (match r with
      | .bl b => M.pure (.bl b)
      | _ => M.fail)
    | none => M.fail)
  | _ => M.fail
theorem de_boI {f : Sem} (hB : BoOk G X bt) (hg : Gl X "bool") (hm : X.mg "bool" = none) (he : DE G X e f) (hs : starEach [e] X.env = (false, eval e X.env) :: starEach [] X.env) (hpl : (backTo pos (starEach [] X.env)).any (·.1) = false) :
    DE G X (.Call (.Name "bool" p) [e] [] pos) (dBoI bt f) := PE.mono (pe_callTy (cr_boI hB) hg hm (by decide +kernel) (da_cons he da_nil hs) (by decide) (by decide) hs hpl) fun σ H Q hq => by
  obtain ⟨I0, H0, I, k, ρ, d, k', F, e, q⟩ := hq
  obtain ⟨x, k1, e1, e⟩ := M.bind_some e
  cases x with
  | ins c fs =>
    simp only at e
    cases c1 : bt c with
    | none => rw [c1] at e; cases e
    | some Fe =>
      rw [c1] at e
      obtain ⟨r, k3, e4, e5⟩ := M.bind_some e
      cases r with
      | bl b =>
        obtain ⟨rfl, rfl⟩ := M.pure_some e5
        refine ⟨I0, H0, I, k, ρ, [.ins c fs], k1, F, by simp only [dCons, dNil, M.bind, M.pure, e1], fun I1 H1 vs s1 r1 => ?_⟩
        cases r1 with
        | cons rv t =>
          cases t
          cases rv with
          | ins h hc hl r =>
            rename_i a C dx us
            refine ⟨a, C, dx, _, c, Fe, rfl, s1.w.inH _ _ h, hc, c1, rfl, G.da, G.me, I1, k1, _, .bl b, _, s1.w, .cons (.ins h hc hl r) .nil, e4, fun I3 H3 w s3 r3 => ?_⟩
            cases r3
            exact ⟨b, rfl, q I3 H3 _ (s1.trans s3) (.bl _)⟩
      | _ => cases e5
  | _ => cases e
end
end Sky

end
section
-- SkyAB: instances of classes without an __init__ of their own; bool by the bundle. 
namespace Sky
open PySem PySem.Spec PyProof.Rows L2
section
variable {X : Cx} {C : Addr} {x : Str} {p pos : Pos}
theorem run_mk0 {pins : List (Addr × Obj)} {σ : L2.St} {H : Hp} {s : Shared} {Q : VK} (hm : PySem.W.makesIn X.K C = true) (hi : PySem.W.findIn X.K (.ref C) "__init__" = some (some (.builtin "object.__init__"))) (I : Inv X pins σ H s)
    (h : ∀ x dx, H x = none → H dx = none → dx ≠ x → Q (.ref x) (upd (upd H dx (.own x)) x (.ins C dx []))) : wpAny (model X.prog X.w) X.A (call (.ref C) []) (EP X pins σ Q) X.xe s := by
  have hq := h (s.heap.objs.size + 1) s.heap.objs.size (I.hok.fresh (Nat.le_succ _)) (I.hok.fresh (Nat.le_refl _)) (Nat.ne_of_lt (Nat.lt_succ_self _))
  have I2 := Inv.made (C := C) I
  have Y := PySem.W.makes_of (M := model X.prog X.w) I.kIn hm
  have g1 : ((s.heap.push PySem.W.emptyDict).push (PySem.W.instObj C s.heap.objs.size)).get? (s.heap.objs.size + 1) = some (PySem.W.instObj C s.heap.objs.size) := by
    have e : (s.heap.push PySem.W.emptyDict).objs.size = s.heap.objs.size + 1 := Heap.size_push ..
    rw [← e]
    exact Heap.get?_push_size _ rfl
  have t1 : PySem.W.Looks (model X.prog X.w) ((s.heap.push PySem.W.emptyDict).push (PySem.W.instObj C s.heap.objs.size)) (typeOf (.ref (s.heap.objs.size + 1))) (.ref C) := (PySem.W.Looks.ld g1).andThen .now
  have t2 : PySem.W.Looks (model X.prog X.w) ((s.heap.push PySem.W.emptyDict).push (PySem.W.instObj C s.heap.objs.size)) (isInstance (.ref (s.heap.objs.size + 1)) (.type "object")) true := t1.andThen (Y.top.keeps fun b o e => Heap.get?_push_of_some _ (Heap.get?_push_of_some _ e))
  refine wpAny_call (make_map0 I.kIn hm hi (fun self => PySem.W.Looks.of_pure (PySem.W.oi_bind self)) ?_)
  refine codeAny_call_builtin PySem.W.oi_plain PySem.W.entry_oi (@PySem.W.check_slot (model X.prog X.w) _ _ _ "object.__init__" "object" "__init__" (.ref (s.heap.objs.size + 1)) [] [] _ PySem.W.oi_kind PySem.W.oi_split t2 (PySem.W.oi_args (.ref (s.heap.objs.size + 1))) ?_)
  rw [PySem.W.oi_run]
  exact wpAny_pure (And.intro rfl ⟨V.ref (s.heap.objs.size + 1), _, I2, rfl, hq⟩)
def tMk0 (C : Addr) : TE := fun σ H Q => ∀ x dx, H x = none → H dx = none → dx ≠ x → Q (.ref x) (upd (upd H dx (.own x)) x (.ins C dx []))
theorem pe_mk0 (hmk : PySem.W.makesIn X.K C = true) (hi : PySem.W.findIn X.K (.ref C) "__init__" = some (some (.builtin "object.__init__"))) (kp : PySem.W.keepIn X.K (.ref C) = true) (hg : Gl X x) (hm : X.mg x = some (.ref C)) (hdb : (x == ("__debug__" : Str)) = false) : PE X (.Call (.Name x p) [] [] pos) (tMk0 C) := by
  refine ⟨fun pins s σ H Q I h => ?_⟩
  refine wpAny_Call_Name_kw (ld_glob I hg hm ?_ hdb)
  exact PySem.W.callWith_K0 I.kIn kp (run_mk0 hmk hi I h)
end
section
variable {G : Gh} {X : Cx} {x : Str} {p pos : Pos} {c : Cn}
def Make0Ok (G : Gh) (X : Cx) (x : Str) (c : Cn) : Prop := ∃ C, X.mg x = some (.ref C) ∧ G.cls c = some C ∧ PySem.W.makesIn X.K C = true ∧ PySem.W.findIn X.K (.ref C) "__init__" = some (some (.builtin "object.__init__")) ∧ PySem.W.keepIn X.K (.ref C) = true
def dMake0 (c : Cn) : Sem := fun _ k => if c.fields.isEmpty then some (.ins c [], k) else none
theorem de_make0 (h : Make0Ok G X x c) (hg : Gl X x) (hdb : (x == ("__debug__" : Str)) = false) : DE G X (.Call (.Name x p) [] [] pos) (dMake0 c) := by
  obtain ⟨C, h1, h2, h3, h4, h5⟩ := h
  refine PE.mono (pe_mk0 h3 h4 h5 hg h1 hdb) fun σ H Q hq => ?_
  obtain ⟨I0, H0, I, k, ρ, d, k', F, e, q⟩ := hq
  intro x dx hx hdx ne
  unfold dMake0 at e
  by_cases hf : c.fields.isEmpty = true
  · rw [if_pos hf] at e
    cases e
    have hf' : c.fields = [] := List.isEmpty_iff.mp hf
    have s1 : Step G I H I (upd H dx (.own x)) k := Step.junk F.w hdx
    have hx' : (upd H dx (.own x)) x = none := by rw [upd_ne (Ne.symm ne)]; exact hx
    have s2 := Step.laid (o := .ins C dx []) s1.w hx'
    refine q _ _ _ (s1.trans s2) ?_
    refine .ins (vs := []) (C := C) (dx := dx) ?_ h2 (by rw [hf']; rfl) .nil
    rw [hf']
    exact upd_same
  · rw [if_neg hf] at e; cases e
end
section
variable {cs : List Cn} {fa : List He.Fa} {fn : List He.DefD} {B : Bun cs fa fn} {X : Cx} {k : Nat} {da : Option Addr} {me : Option (Addr × Addr × Addr)}
theorem Bun.make0 {c : Cn} {x : Str} (i : B.In X k) (hx : x = c.name) (hc : c ∈ cs) (hf : c.fields = []) (g : B.mg x = some (.ref (He.ga B.K x))) (hg : (He.Fa.glo x).ok B.K = true) : Make0Ok (B.G da me) X x c := by
  have m := B.say.mk0 hc hf
  obtain ⟨P, w, K, mg, base, A⟩ := X
  obtain ⟨rfl, rfl, rfl, rfl, rfl, hr⟩ := i
  subst hx
  obtain ⟨m1, m2⟩ := He.ba m
  obtain ⟨m2, m3⟩ := He.ba m2
  refine ⟨He.ga B.K c.name, g, ?_, m1, He.eqO_ok m2, m3⟩
  show clsG B.K c = _
  unfold clsG
  rw [He.eqO_ok hg]
def Bun.BoRow (B : Bun cs fa fn) (k : Nat) (bt : Eqt) : Prop := ∀ c F, bt c = some F → ∃ j, j + 2 ≤ k ∧ B.Ok (c.name, some "__bool__") j 1 F ∧ (He.Fa.meth c.name "__bool__").ok B.K = true
theorem Bun.boOk {bt : Eqt} (h : B.BoRow k bt) (i : B.In X k) : BoOk (B.G da me) X bt := by
  intro c F C e hC
  obtain rfl := cls_ga hC
  obtain ⟨j, hj, ⟨fd, ps, h1, h2, h3⟩, hm⟩ := h c F e
  obtain ⟨P, w, K, mg, base, A⟩ := X
  obtain ⟨rfl, rfl, rfl, rfl, rfl, hr⟩ := i
  exact ⟨j, _, fd, ps, He.meth_ok hm, h2, hr.mono hj, h3⟩
end
end Sky

end
section
set_option maxHeartbeats 1000000
-- SkyAC: zip of a list with a tuple. 
namespace SkyZ
open PySem
open PySem.Sem (wp)
section
variable {prog : Program} {w : World} {A : Around} {E : Value → Shared → Prop} {s : Shared} {z p q i j l t : Addr} {m n : Nat} {us vs : Array Value}
/-- what the zip at z is made of: a walk of the list l, a walk of the tuple t -/
structure Zp (h : Heap) (z p q i j l t : Addr) (m n : Nat) (us vs : Array Value) (c d : Value) : Prop where
  z : IsZip h z p q .none
  p : IsPair h p (.ref i) (.ref j)
  q : IsPair h q c d
  i : h.IsListIter i l m
  j : h.IsTupleIter j t n
  l : h.IsList l us
  t : h.IsTuple t vs
/-- all but the four that move are kept -/
def Kp (z q i j : Addr) (h h' : Heap) : Prop := ∀ c o, c ≠ z → c ≠ q → c ≠ i → c ≠ j → h.get? c = some o → h'.get? c = some o
theorem one {x y c d : Value} {Q : Value → Shared → Prop} (S : ZipApart z p q i j l t) (Z : Zp s.heap z p q i j l t m n us vs c d) (ex : us[m]? = some x) (ey : vs[n]? = some y)
    (hQ : ∀ h', IsZip h' z p q (rawInt s.heap.objs.size) → IsPair h' q x y → h'.IsListIter i l (m + 1) → h'.IsTupleIter j t (n + 1) → IsPair h' s.heap.objs.size x y → h'.objs.size = s.heap.objs.size + 1 → Kp z q i j s.heap h' → Q (.ref s.heap.objs.size) { s with heap := h' }) :
    wpAny (model prog w) A (Builtin.«zip.__next__» ⟨[.ref z], []⟩) (fun fin s' => ∃ v, fin = .done (.ret v) ∧ Q v s') E s := by
  have z0 := Z.z; have p0 := Z.p; have q0 := Z.q
  refine (show wpAny (model prog w) A (field (.ref z) 2 >>= _) _ _ _ from wpAny_bind (wpAny_field z0 rfl (x := .bool false) rfl (show wpAny (model prog w) A (field (.ref z) 3 >>= _) _ _ _ from wpAny_bind (wpAny_field z0 rfl (x := .ref p) rfl (wpAny_bind (wpAny_seqItems p0 rfl ?_))))))
  refine (show wpAny (model prog w) A (Builtin.SmallTypes.ownedTupleIsFree (.ref z) >>= _) _ _ _ from wpAny_bind ?_)
  unfold Builtin.SmallTypes.ownedTupleIsFree
  refine wpAny_bind (wpAny_field z0 rfl (x := .none) rfl (wpAny_pure ?_)); simp only [if_true]
  refine wpAny_bind (wpAny_rule (wpAny_bind (wpAny_field z0 rfl (x := .ref q) rfl (wpAny_bind (wpAny_setField_rec z0 (by simp) fun ha za sa => ?_)))))
  replace za : IsZip ha z p q .ellipsis := za
  refine wpAny_bind ?_; simp only [List.zipIdx_cons, List.zipIdx_nil, List.forIn_cons, List.forIn_nil]
  refine wpAny_bind (wpAny_bind (wpAny_onRaise (show wpAny (model prog w) A (Builtin.SmallTypes.nextOf (.ref i) >>= _) _ _ _ from wpAny_bind (wpAny_nextOf_list_item (Z.i.extBut sa.extBut S.i1z) (Z.l.extBut sa.extBut S.l1z) ex fun hb ib sb => wpAny_pure ?_))))
  have qb : IsPair hb q c d := sb.extBut _ _ S.TOi1 (sa.extBut _ _ S.TOz q0)
  refine wpAny_bind (wpAny_seqItems qb rfl (wpAny_bind (wpAny_updateSeq_pair qb fun hc qc sc => ?_)))
  replace qc : IsPair hc q x d := qc
  refine wpAny_bind (wpAny_letGo (wpAny_pure (wpAny_bind (wpAny_bind (wpAny_onRaise (show wpAny (model prog w) A (Builtin.SmallTypes.nextOf (.ref j) >>= _) _ _ _ from wpAny_bind (RZ.nextOf_tuple_item (((Z.j.extBut sa.extBut S.i2z).extBut sb.extBut S.i12.symm).extBut sc.extBut S.TOi2.symm) (((Z.t.extBut sa.extBut S.l2z).extBut sb.extBut S.l2i1).extBut sc.extBut S.l2TO) ey fun hd jd sd => wpAny_pure ?_)))))))
  have qd : IsPair hd q x d := sd.extBut _ _ S.TOi2 qc
  refine wpAny_bind (wpAny_seqItems qd rfl (wpAny_bind (wpAny_updateSeq_pair qd fun he qe se => ?_)))
  replace qe : IsPair he q x y := qe
  refine wpAny_bind (wpAny_letGo (wpAny_pure (wpAny_pure (wpAny_bind (wpAny_seqItems qe rfl (wpAny_bind (wpAny_newTuple ?_)))))))
  have sz : he.objs.size = s.heap.objs.size := by rw [se.1, sd.1, sc.1, sb.1, sa.1]
  have ze : IsZip he z p q .ellipsis := se.extBut _ _ S.TOz.symm (sd.extBut _ _ S.i2z.symm (sc.extBut _ _ S.TOz.symm (sb.extBut _ _ S.i1z.symm za)))
  have ke : ∀ c o, c ≠ z → c ≠ q → c ≠ i → c ≠ j → s.heap.get? c = some o → he.get? c = some o := fun c o c1 c2 c3 c4 e => se.extBut _ _ c2 (sd.extBut _ _ c4 (sc.extBut _ _ c2 (sb.extBut _ _ c3 (sa.extBut _ _ c1 e))))
  have ie : he.IsListIter i l (m + 1) := ((ib.extBut sc.extBut S.TOi1.symm).extBut sd.extBut S.i12).extBut se.extBut S.TOi1.symm
  have je : he.IsTupleIter j t (n + 1) := jd.extBut se.extBut S.TOi2.symm
  have zl : z < he.objs.size := Heap.lt_size ze
  refine (show wpAny (model prog w) A (Builtin.SmallTypes.ownedTupleHandOut (.ref z) (.ref he.objs.size) >>= _) _ _ _ from wpAny_bind ?_)
  unfold Builtin.SmallTypes.ownedTupleHandOut
  have zf : IsZip (he.push { cls := .type "tuple", data := .seq #[x, y] }) z p q .ellipsis := Heap.get?_push_of_some _ ze
  refine wpAny_bind (wpAny_setField_rec zf (by simp) fun hg zg sg => ?_)
  replace zg : IsZip hg z p q (rawInt he.objs.size) := zg
  refine wpAny_setField_rec zg (by simp) fun hk zk sk => ?_
  replace zk : IsZip hk z p q (rawInt he.objs.size) := zk
  have up : ∀ c o, c ≠ z → he.get? c = some o → hk.get? c = some o := fun c o ne e => sk.extBut _ _ ne (sg.extBut _ _ ne (Heap.get?_push_of_some _ e))
  have nk : IsPair hk he.objs.size x y := sk.extBut _ _ (Nat.ne_of_gt zl) (sg.extBut _ _ (Nat.ne_of_gt zl) (Heap.get?_push_size _ rfl))
  have lk : hk.objs.size = he.objs.size + 1 := by rw [sk.1, sg.1, Heap.size_push]
  rw [sz] at zk nk lk
  refine wpAny_pure ⟨_, rfl, (show Q (.ref he.objs.size) _ from ?_)⟩
  rw [sz]
  exact hQ hk zk (up _ _ S.TOz qe) (ie.at fun o e => up _ o S.i1z e) (je.at fun o e => up _ o S.i2z e) nk lk fun c o a1 a2 a3 a4 e => up c o a1 (ke c o a1 a2 a3 a4 e)
theorem last {c d : Value} {Q : Fin → Shared → Prop} (hh : A.handled = none) (S : ZipApart z p q i j l t) (Z : Zp s.heap z p q i j l t m n us vs c d) (en : us[m]? = none ∨ vs[n]? = none)
    (hE : ∀ h' e, Kp z q i j s.heap h' → (∃ o, h'.get? e = some o ∧ o.cls = .type "StopIteration") → E (.ref e) { s with heap := h' }) : wpAny (model prog w) A (Builtin.«zip.__next__» ⟨[.ref z], []⟩) Q E s := by
  have z0 := Z.z; have p0 := Z.p; have q0 := Z.q
  refine (show wpAny (model prog w) A (field (.ref z) 2 >>= _) _ _ _ from wpAny_bind (wpAny_field z0 rfl (x := .bool false) rfl (show wpAny (model prog w) A (field (.ref z) 3 >>= _) _ _ _ from wpAny_bind (wpAny_field z0 rfl (x := .ref p) rfl (wpAny_bind (wpAny_seqItems p0 rfl ?_))))))
  refine (show wpAny (model prog w) A (Builtin.SmallTypes.ownedTupleIsFree (.ref z) >>= _) _ _ _ from wpAny_bind ?_)
  unfold Builtin.SmallTypes.ownedTupleIsFree
  refine wpAny_bind (wpAny_field z0 rfl (x := .none) rfl (wpAny_pure ?_)); simp only [if_true]
  refine wpAny_bind (wpAny_rule (wpAny_bind (wpAny_field z0 rfl (x := .ref q) rfl (wpAny_bind (wpAny_setField_rec z0 (by simp) fun ha za sa => ?_)))))
  replace za : IsZip ha z p q .ellipsis := za
  refine wpAny_bind ?_; simp only [List.zipIdx_cons, List.zipIdx_nil, List.forIn_cons, List.forIn_nil]
  refine wpAny_bind (wpAny_bind (wpAny_onRaise (show wpAny (model prog w) A (Builtin.SmallTypes.nextOf (.ref i) >>= _) _ _ _ from ?_)))
  cases ex : us[m]? with
  | none =>
    refine wpAny_bind (wpAny_nextOf_list_end hh (Z.i.extBut sa.extBut S.i1z) (Z.l.extBut sa.extBut S.l1z) ex fun hb e sb he => ?_)
    obtain ⟨oe, g1, g2⟩ := he
    have zb : IsZip hb z p q .ellipsis := sb _ _ S.i1z.symm za
    have ne : e ≠ z := fun y => by subst y; rw [zb] at g1; cases g1; simp at g2
    refine wpAny_setField_rec zb (by simp) fun hc _ sc => hE hc e (fun c o a1 _ a3 _ y => sc.extBut _ _ a1 (sb _ _ a3 (sa.extBut _ _ a1 y))) ⟨oe, sc.extBut _ _ ne g1, g2⟩
  | some x =>
    have ey : vs[n]? = none := en.resolve_left (by rw [ex]; exact fun y => by cases y)
    refine wpAny_bind (wpAny_nextOf_list_item (Z.i.extBut sa.extBut S.i1z) (Z.l.extBut sa.extBut S.l1z) ex fun hb ib sb => wpAny_pure ?_)
    have qb : IsPair hb q c d := sb.extBut _ _ S.TOi1 (sa.extBut _ _ S.TOz q0)
    refine wpAny_bind (wpAny_seqItems qb rfl (wpAny_bind (wpAny_updateSeq_pair qb fun hc qc sc => wpAny_bind (wpAny_letGo (wpAny_pure (wpAny_bind (wpAny_bind (wpAny_onRaise (show wpAny (model prog w) A (Builtin.SmallTypes.nextOf (.ref j) >>= _) _ _ _ from ?_)))))))))
    refine wpAny_bind (RZ.nextOf_tuple_end hh (((Z.j.extBut sa.extBut S.i2z).extBut sb.extBut S.i12.symm).extBut sc.extBut S.TOi2.symm) (((Z.t.extBut sa.extBut S.l2z).extBut sb.extBut S.l2i1).extBut sc.extBut S.l2TO) ey fun hd e sd he => ?_)
    obtain ⟨oe, g1, g2⟩ := he
    have zd : IsZip hd z p q .ellipsis := sd _ _ S.i2z.symm (sc.extBut _ _ S.TOz.symm (sb.extBut _ _ S.i1z.symm za))
    have ne : e ≠ z := fun y => by subst y; rw [zd] at g1; cases g1; simp at g2
    refine wpAny_setField_rec zd (by simp) fun hf _ sf => hE hf e (fun c o a1 a2 a3 a4 y => sf.extBut _ _ a1 (sd _ _ a4 (sc.extBut _ _ a2 (sb.extBut _ _ a3 (sa.extBut _ _ a1 y))))) ⟨oe, sf.extBut _ _ ne g1, g2⟩
theorem nextOne {x y c d : Value} {Q : Option Value → Shared → Prop} (S : ZipApart z p q i j l t) (Z : Zp s.heap z p q i j l t m n us vs c d) (ex : us[m]? = some x) (ey : vs[n]? = some y)
    (hQ : ∀ h', IsZip h' z p q (rawInt s.heap.objs.size) → IsPair h' q x y → h'.IsListIter i l (m + 1) → h'.IsTupleIter j t (n + 1) → IsPair h' s.heap.objs.size x y → h'.objs.size = s.heap.objs.size + 1 → Kp z q i j s.heap h' → Q (some (.ref s.heap.objs.size)) { s with heap := h' }) : wpAny (model prog w) A (pyNext (.ref z)) Q E s := by
  have ty : s.TypeIs (.ref z) "zip" := ⟨_, Z.z, rfl⟩
  unfold pyNext
  exact wpAny_bind (wpAny_attempt (wpAny_callSpecial?_slot (name := Str.ofString "__next__") ty F.slot_zip_next (wpAny_call_entry F.slot_zip_next ty F.entry_zip_next (one S Z ex ey fun h' a1 a2 a3 a4 a5 a6 a7 => wpAny_pure (hQ h' a1 a2 a3 a4 a5 a6 a7)) (F.args_zip_next_1 _))))
theorem nextLast {c d : Value} {Q : Option Value → Shared → Prop} (hh : A.handled = none) (S : ZipApart z p q i j l t) (Z : Zp s.heap z p q i j l t m n us vs c d) (en : us[m]? = none ∨ vs[n]? = none)
    (hQ : ∀ h', Kp z q i j s.heap h' → Q none { s with heap := h' }) : wpAny (model prog w) A (pyNext (.ref z)) Q E s := by
  have ty : s.TypeIs (.ref z) "zip" := ⟨_, Z.z, rfl⟩
  unfold pyNext
  refine wpAny_bind (wpAny_attempt (wpAny_callSpecial?_slot (name := Str.ofString "__next__") ty F.slot_zip_next (wpAny_call_entry F.slot_zip_next ty F.entry_zip_next (last hh S Z en fun h' e hk he => ?_) (F.args_zip_next_1 _))))
  obtain ⟨o, g1, g2⟩ := he
  exact wpAny_bind (wpAny_isInstance (T := "StopIteration") (b := true) ⟨o, g1, g2⟩ isSubtype_stop (wpAny_pure (hQ _ hk)))
end
/-- the heap after each object that zip lays -/
abbrev Ha (h : Heap) (l : Addr) : Heap := h.push { cls := .type "list_iterator", data := .fields #[.ref l, .int 0 0] }
abbrev Hb (h : Heap) (l t : Addr) : Heap := (Ha h l).push { cls := .type "tuple_iterator", data := .fields #[.ref t, .int 0 0] }
abbrev Hc (h : Heap) (l t : Addr) : Heap := (Hb h l t).push { cls := .type "tuple", data := .seq #[.ref h.objs.size, .ref (Ha h l).objs.size] }
abbrev Hd (h : Heap) (l t : Addr) : Heap := (Hc h l t).push { cls := .type "tuple", data := .seq #[.none, .none] }
abbrev He (h : Heap) (l t : Addr) : Heap := (Hd h l t).push { cls := .type "zip", data := .fields #[.none, .bool false, .bool false, .ref (Hb h l t).objs.size, .ref (Hc h l t).objs.size] }
theorem made (l t : Addr) (us vs : Array Value) : Meets (Builtin.«zip.__new__» ⟨[.type "zip", .ref l, .ref t], []⟩) (fun _ R s => s.heap.IsList l us ∧ s.heap.IsTuple t vs ∧ R (.ok (.ret (.ref (Hd s.heap l t).objs.size))) { s with heap := He s.heap l t }) :=
  .of_wp fun prog w A R s ⟨gl, gt, gr⟩ => by
    obtain ⟨hp, g, d, tk, os⟩ := s
    have f0 := sub_zip
    have f1 : Heap.IsList (Shared.heap ⟨hp, g, d, tk, os⟩) l us := gl
    have f2 : Heap.IsTuple (Shared.heap ⟨hp.push { cls := .type "list_iterator", data := .fields #[.ref l, .int 0 0] }, g, d, tk, os⟩) t vs := Heap.IsTuple.push gt _
    wp_walk using wpAny_pyIter_list f1, wpAny_pyIter_tuple f2
    exact ⟨_, rfl, gr⟩
section
variable {prog : Program} {w : World} {A : Around} {E : Value → Shared → Prop} {s : Shared} {l t : Addr} {us vs : Array Value}
theorem call_zipLT {Q : Value → Shared → Prop} (gl : s.heap.IsList l us) (gt : s.heap.IsTuple t vs)
    (h : ∀ h', IsZip h' (s.heap.objs.size + 4) (s.heap.objs.size + 2) (s.heap.objs.size + 3) .none → IsPair h' (s.heap.objs.size + 2) (.ref s.heap.objs.size) (.ref (s.heap.objs.size + 1)) → IsPair h' (s.heap.objs.size + 3) .none .none →
      h'.IsListIter s.heap.objs.size l 0 → h'.IsTupleIter (s.heap.objs.size + 1) t 0 → (∀ c o, s.heap.get? c = some o → h'.get? c = some o) → Q (.ref (s.heap.objs.size + 4)) { s with heap := h' }) : wpAny (model prog w) A (call (.type "zip") [.ref l, .ref t]) Q E s := by
  refine callType_new F.called_zip (by decide) (F.typeCall_zip_2 _ _) (F.newCall_zip_2 _ _) (fun obj => F.args_object_init_3 obj _ _) F.entry_zip_new (made l t us vs) ⟨gl, gt, ?_⟩
  have ya : (Ha s.heap l).objs.size = s.heap.objs.size + 1 := Heap.size_push ..
  have yb : (Hb s.heap l t).objs.size = s.heap.objs.size + 2 := (Heap.size_push ..).trans (by rw [ya])
  have yc : (Hc s.heap l t).objs.size = s.heap.objs.size + 3 := (Heap.size_push ..).trans (by rw [yb])
  have yd : (Hd s.heap l t).objs.size = s.heap.objs.size + 4 := (Heap.size_push ..).trans (by rw [yc])
  have up : ∀ {h : Heap} {o : Obj} {c : Addr} {u : Obj}, h.get? c = some u → (h.push o).get? c = some u := fun e => Heap.get?_push_of_some _ e
  have ge : (He s.heap l t).get? (Hd s.heap l t).objs.size = some _ := Heap.get?_push_size _ rfl
  have gd : (He s.heap l t).get? (Hc s.heap l t).objs.size = some _ := up (Heap.get?_push_size _ rfl)
  have gc : (He s.heap l t).get? (Hb s.heap l t).objs.size = some _ := up (up (Heap.get?_push_size _ rfl))
  have gb : (He s.heap l t).get? (Ha s.heap l).objs.size = some _ := up (up (up (Heap.get?_push_size _ rfl)))
  have ga : (He s.heap l t).get? s.heap.objs.size = some _ := up (up (up (up (Heap.get?_push_size _ rfl))))
  refine (show _ ∧ _ from ?_)
  rw [yb, yc, yd] at ge; rw [ya, yb] at gc; rw [yc] at gd; rw [ya] at gb
  rw [yd]
  exact ⟨⟨_, ge, rfl⟩, h _ ge gc gd ⟨_, ga, rfl, rfl⟩ ⟨_, gb, rfl, rfl⟩ fun c o x => up (up (up (up (up x))))⟩
end
end SkyZ

end
section
set_option maxHeartbeats 1000000
-- SkyAD: zip of a list with a tuple, by data. 
namespace SkyZ
open PySem PySem.Spec PyProof.Rows L2
/-- the list at a, the tuple at b, in new pairs -/
def ItM (K : PySem.W.Frag) (a b : Addr) : It :=
  ⟨fun n H => ∃ (us vs : List V) (x y : V), (SqL K H a us ∧ us[n]? = some x) ∧ (SqT K H b vs ∧ vs[n]? = some y),
    fun n H v H' => ∃ T x y, v = .ref T ∧ H T = none ∧ H' = upd H T (.tup [x, y]) ∧ (∀ us, SqL K H a us → us[n]? = some x) ∧ (∀ vs, SqT K H b vs → vs[n]? = some y),
    fun n H => ∃ us vs : List V, (SqL K H a us ∧ SqT K H b vs) ∧ (us.length ≤ n ∨ vs.length ≤ n)⟩
theorem five {z p q i j c : Addr} (h : c ∈ [z, p, q, i, j]) : c = z ∨ c = p ∨ c = q ∨ c = i ∨ c = j := by simpa using h
theorem turnM {P : Program} {w : World} {K : PySem.W.Frag} {elts : List Expr} {kk : Nat} {tpos : Pos} {a b z p q i j : Addr} (S : ZipApart z p q i j a b) :
    Turn P w K (.Tuple elts kk tpos) (ItM K a b) [z, p, q, i, j] z (fun n h => (IsZip h z p q .none ∧ IsPair h p (.ref i) (.ref j)) ∧ (∃ x y, IsPair h q x y) ∧ (h.IsListIter i a n ∧ h.IsTupleIter j b n)) where
  mem := List.mem_cons_self
  obj := fun n h ⟨⟨g1, g2⟩, ⟨x, y, g3⟩, ⟨o1, e1, _, d1⟩, ⟨o2, e2, _, d2⟩⟩ c hc => by
    rcases five hc with r | r | r | r | r
    · subst r; exact ⟨_, g1, fun v k => nomatch k⟩
    · subst r; exact ⟨_, g2, fun v k => nomatch k⟩
    · subst r; exact ⟨_, g3, fun v k => nomatch k⟩
    · exact ⟨o1, r ▸ e1, fun v k => by rw [d1] at k; cases k⟩
    · exact ⟨o2, r ▸ e2, fun v k => by rw [d2] at k; cases k⟩
  keep := fun n h h' ⟨⟨g1, g2⟩, ⟨x, y, g3⟩, g4, g5⟩ k =>
    ⟨⟨k z (by simp) _ g1, k p (by simp) _ g2⟩, ⟨x, y, k q (by simp) _ g3⟩, g4.at fun o e => k i (by simp) o e, g5.at fun o e => k j (by simp) o e⟩
  item := by
    intro X hP hw hK hc n pins s σ H E I hf st hg
    subst hP hw hK
    obtain ⟨⟨g1, g2⟩, ⟨x0, y0, g3⟩, g4, g5⟩ := st
    obtain ⟨us, vs, x, y, ⟨l1, ex⟩, l2, ey⟩ := hg
    obtain ⟨as, ra, pa, _⟩ := I.list l1
    obtain ⟨bs, rb, pb, _⟩ := I.tuple l2
    obtain ⟨u, hu, ru⟩ := ra.get ex
    obtain ⟨v, hv, rv⟩ := rb.get ey
    have zl : z < s.heap.objs.size := Heap.lt_size g1
    refine nextOne S ⟨g1, g2, g3, g4, g5, pa.isList, pb⟩ (x := u) (y := v) (by simpa using hu) (by simpa using hv) fun h' z' q' i' j' new sz kp => ?_
    refine ⟨_, rfl, wpAny_letOwnedTupleGo_zip (s := { s with heap := h' }) z' fun h2 z2 sb => ?_⟩
    have n2 : h2.get? s.heap.objs.size = some { cls := .type "tuple", data := .seq #[u, v] } := (sb.2 _ (Nat.ne_of_gt zl)).trans new
    have ok : ObjOk X.prog X.w (upd H s.heap.objs.size (.tup [x, y])) h2 s.heap.objs.size (.tup [x, y]) := ⟨(show 2 ≤ sizeLine by decide), [u, v], .cons ru (.cons rv .nil), ⟨_, n2, rfl, _, rfl⟩⟩
    have I2 : Inv X pins σ (upd H s.heap.objs.size (.tup [x, y])) { s with heap := h2 } := I.turnedNew (t' := s.toks) (ch := [z, p, q, i, j]) (fun c o no k => (sb.2 c (fun y => no (by simp [y]))).trans (kp c o (fun y => no (by simp [y])) (fun y => no (by simp [y])) (fun y => no (by simp [y])) (fun y => no (by simp [y])) k)) hf (Nat.le_refl _) ok
    refine ⟨.ref s.heap.objs.size, _, I2, rfl, ⟨_, x, y, rfl, I.hok.fresh (Nat.le_refl _), rfl, fun l hl => by rw [I.list_inj hl l1]; exact ex, fun l hl => by rw [I.tuple_inj hl l2]; exact ey⟩, ⟨⟨z2, ?_⟩, ⟨u, v, ?_⟩, ?_, ?_⟩, fun c hc => ?_⟩
    · exact (sb.2 _ S.TIz).trans (kp _ _ S.TIz S.TITO S.TIi1 S.TIi2 g2)
    · exact (sb.2 _ S.TOz).trans q'
    · exact i'.at fun o k => (sb.2 _ S.i1z).trans k
    · exact j'.at fun o k => (sb.2 _ S.i2z).trans k
    · have lt : c < s.heap.objs.size := by
        rcases five hc with r | r | r | r | r
        · exact r ▸ zl
        · exact r ▸ Heap.lt_size g2
        · exact r ▸ Heap.lt_size g3
        · obtain ⟨_, e1, _⟩ := g4; exact r ▸ Heap.lt_size e1
        · obtain ⟨_, e2, _⟩ := g5; exact r ▸ Heap.lt_size e2
      rw [upd_ne (Nat.ne_of_lt lt)]
      exact (hf c hc).1
  done := by
    intro X hP hw hK hc n pins s σ H E I hf st hg
    subst hP hw hK
    obtain ⟨⟨g1, g2⟩, ⟨x0, y0, g3⟩, g4, g5⟩ := st
    obtain ⟨us, vs, ⟨l1, l2⟩, en⟩ := hg
    obtain ⟨as, ra, pa, _⟩ := I.list l1
    obtain ⟨bs, rb, pb, _⟩ := I.tuple l2
    have n1 := ra.length
    have n2 := rb.length
    have he : as.toArray[n]? = none ∨ bs.toArray[n]? = none := en.imp (fun k => by simp; omega) (fun k => by simp; omega)
    exact nextLast (I.ok.hd hc) S ⟨g1, g2, g3, g4, g5, pa.isList, pb⟩ he fun h' kp => ⟨rfl, I.turnedL (t' := s.toks) (ch := [z, p, q, i, j]) (fun c o no k => kp c o (fun y => no (by simp [y])) (fun y => no (by simp [y])) (fun y => no (by simp [y])) (fun y => no (by simp [y])) k) hf⟩
  self := fun A n s Q E st h => wpAny_pyIter_zip st.1.1 h
def iM (K : PySem.W.Frag) (ta : TA) : TI := fun σ H R => ta σ H fun xs H1 => ∃ a b us vs, xs = [.ref a, .ref b] ∧ (SqL K H1 a us ∧ SqT K H1 b vs) ∧ R (ItM K a b) H1
theorem piM {X : Cx} {e e2 : Expr} {ta : TA} {p pos tpos : Pos} {elts : List Expr} {kk : Nat} (hg : Gl X "zip") (hm : X.mg "zip" = none) (ha : PA X [e, e2] ta) (hs : starEach [e, e2] X.env = (false, eval e X.env) :: starEach [e2] X.env) (hpl : (backTo pos (starEach [e2] X.env)).any (·.1) = false) :
    PI X (.Tuple elts kk tpos) (.Call (.Name "zip" p) [e, e2] [] pos) (iM X.K ta) := by
  refine ⟨fun pins s σ H R I h => Call_ (ld_blt I hg hm PyProof.Rows.boot_zip (PyProof.Rows.callWith_type1 (thn (ha.run pos pins s σ H _ I h) fun ws s1 ⟨xs, H1, I1, r1, q1⟩ => ?_) hs hpl))⟩
  obtain ⟨a, b, us, vs, rfl, ⟨l1, l2⟩, q⟩ := q1
  cases r1 with
  | cons ra r1 =>
    cases r1 with
    | cons rb r1 =>
      cases r1; cases ra; cases rb
      have le : ∀ c, c ∈ [s1.heap.objs.size + 4, s1.heap.objs.size + 2, s1.heap.objs.size + 3, s1.heap.objs.size, s1.heap.objs.size + 1] → s1.heap.objs.size ≤ c := fun c hc => by
        rcases five hc with r | r | r | r | r <;> rw [r] <;> first | exact Nat.le_add_right _ _ | exact Nat.le_refl _
      obtain ⟨as, _, pa, _⟩ := I1.list l1
      obtain ⟨bs, _, pb, _⟩ := I1.tuple l2
      obtain ⟨ob, hob, _⟩ := id pb
      refine call_zipLT pa.isList (show s1.heap.IsTuple b bs.toArray from pb) fun h' gz gp gq gi gj kp => wpAny_pyIter_zip gz ?_
      exact ⟨s1.heap.objs.size + 4, [s1.heap.objs.size + 4, s1.heap.objs.size + 2, s1.heap.objs.size + 3, s1.heap.objs.size, s1.heap.objs.size + 1], _, _, H1, rfl, I1.kept (t' := s1.toks) kp, turnM (PySem.W.ktu_apart s1.heap.objs.size a b pa.lt (Heap.lt_size hob)),
        ⟨⟨gz, gp⟩, ⟨_, _, gq⟩, gi, gj⟩, fun c hc => I1.fpOk (le c hc) (I1.hok.fresh (le c hc)), q⟩
end SkyZ
namespace Sky
open PySem PySem.Spec PyProof.Rows L2
theorem walkM {K : PySem.W.Frag} {a b : Addr} {xs ys : List V} {n : Nat} (hn : n = min xs.length ys.length) : Walk (SkyZ.ItM K a b) n (fun H => SqL K H a xs ∧ SqT K H b ys) (YPair (fun i => xs[i]?) (fun i => ys[i]?)) := by
  subst hn
  refine ⟨fun i _ hi q => ?_, fun _ q => ⟨xs, ys, q, by omega⟩, fun i H v H' _ q y => ?_⟩
  · have h1 : i < xs.length := by omega
    have h2 : i < ys.length := by omega
    exact ⟨xs, ys, xs[i], ys[i], ⟨q.1, by simp [h1]⟩, q.2, by simp [h2]⟩
  · obtain ⟨T, x, z, h1, h2, h3, h4, h5⟩ := y
    exact ⟨T, x, z, h1, h2, h3, h4 xs q.1, h5 ys q.2⟩
/-- zip of a list with a tuple -/
def zipMD : List D → Option (List D)
  | [.lst xs, .tup ys] => some (List.zipWith pairD xs ys)
  | _ => none
def dZipM (f : SemL) : SemL := fun ρ => M.bind (f ρ) fun xs => M.lift (zipMD xs)
theorem di_zipM {G : Gh} {X : Cx} {e e2 : Expr} {p pos tpos : Pos} {elts : List Expr} {kk : Nat} {f : SemL} (hK : X.K = G.K) (hg : Gl X "zip") (hm : X.mg "zip" = none) (ha : DA G X [e, e2] f) (hs : starEach [e, e2] X.env = (false, eval e X.env) :: starEach [e2] X.env) (hpl : (backTo pos (starEach [e2] X.env)).any (·.1) = false) :
    DI G X (.Tuple elts kk tpos) (.Call (.Name "zip" p) [e, e2] [] pos) (dZipM f) := PI.mono (SkyZ.piM hg hm ha hs hpl) fun σ H R hq => by
  obtain ⟨I0, H0, I, k, ρ, ds, k', F, e1, q⟩ := hq
  obtain ⟨x, k1, e2, e3⟩ := M.bind_some e1
  obtain ⟨e4, rfl⟩ := M.lift_some e3
  refine ⟨I0, H0, I, k, ρ, x, _, F, e2, fun I1 H1 vs s1 r1 => ?_⟩
  rw [hK]
  match x, r1, e4 with
  | [.lst xs, .tup ys], r1, e4 =>
    simp only [zipMD] at e4; cases e4
    cases r1 with
    | cons h1 r1 =>
      cases r1 with
      | cons h2 r1 =>
        cases r1
        cases h1 with
        | @lst a vs _ h1 g1 =>
          cases h2 with
          | @tup b ws _ h2 g2 =>
            exact ⟨a, b, vs, ws, rfl, ⟨SqL.of (s1.w.inH _ _ h1), sqT_sub s1.w.inH h2⟩, q I1 H1 _ s1 (yld_pair rfl g1 g2 (walkM (by rw [g1.length, g2.length])) fun H I2 k2 s w => ⟨SqL.of (w.inH _ _ (s _ _ h1)), sqT_sub w.inH (sqT_sub s h2)⟩)⟩
end Sky

end
section
set_option maxHeartbeats 0
namespace Sky
open PySem PySem.Spec PyProof.Rows L2
def top (i : Nat) : Stmt := PySem.Challenge.pw_skyplaced_k91_time_the_other_way.main.body.getD i (.Pass ⟨0, 0, 0, 0⟩)
def dD (p : Str × Option Str) (x q : Str) (st : Stmt) : He.DefD := ⟨p, x, q, defArgs st, defBody st, defScope st, [], []⟩
def dd__wall : He.DefD := dD ("_wall", none) "_wall" "_wall" (top 0)
def dd_is_integer : He.DefD := dD ("is_integer", none) "is_integer" "is_integer" (top 6)
def dd_is_number : He.DefD := dD ("is_number", none) "is_number" "is_number" (top 7)
def dd_check_number : He.DefD := dD ("check_number", none) "check_number" "check_number" (top 8)
def dd_is_row : He.DefD := dD ("is_row", none) "is_row" "is_row" (top 9)
def dd_common : He.DefD := dD ("common", none) "common" "common" (top 10)
def dd_is_triple : He.DefD := dD ("is_triple", none) "is_triple" "is_triple" (top 13)
def dd_is_direction : He.DefD := dD ("is_direction", none) "is_direction" "is_direction" (top 14)
def dd_check_triple : He.DefD := dD ("check_triple", none) "check_triple" "check_triple" (top 15)
def dd_least : He.DefD := dD ("least", none) "least" "least" (top 16)
def dd_opposite : He.DefD := dD ("opposite", none) "opposite" "opposite" (top 17)
def dd_dot : He.DefD := dD ("dot", none) "dot" "dot" (top 18)
def dd_cross : He.DefD := dD ("cross", none) "cross" "cross" (top 19)
def dd_det : He.DefD := dD ("det", none) "det" "det" (top 20)
def dd_plus : He.DefD := dD ("plus", none) "plus" "plus" (top 21)
def dd_times : He.DefD := dD ("times", none) "times" "times" (top 22)
def dd_is_on_line : He.DefD := dD ("is_on_line", none) "is_on_line" "is_on_line" (top 23)
def dd_is_between : He.DefD := dD ("is_between", none) "is_between" "is_between" (top 24)
def dd_Way___init__ : He.DefD := dD ("Way", some "__init__") "__init__" "Way.__init__" (inClass (top 27) 0)
def dd_Way___bool__ : He.DefD := dD ("Way", some "__bool__") "__bool__" "Way.__bool__" (inClass (top 27) 1)
def dd_Way___eq__ : He.DefD := dD ("Way", some "__eq__") "__eq__" "Way.__eq__" (inClass (top 27) 2)
def dd_Way_shows : He.DefD := dD ("Way", some "shows") "shows" "Way.shows" (inClass (top 27) 3)
def dd_Ways___init__ : He.DefD := dD ("Ways", some "__init__") "__init__" "Ways.__init__" (inClass (top 28) 0)
def dd_Ways___bool__ : He.DefD := dD ("Ways", some "__bool__") "__bool__" "Ways.__bool__" (inClass (top 28) 1)
def dd_Ways___eq__ : He.DefD := dD ("Ways", some "__eq__") "__eq__" "Ways.__eq__" (inClass (top 28) 2)
def dd_Ways_shows : He.DefD := dD ("Ways", some "shows") "shows" "Ways.shows" (inClass (top 28) 3)
def dd_NoWay___init__ : He.DefD := dD ("NoWay", some "__init__") "__init__" "NoWay.__init__" (inClass (top 29) 0)
def dd_NoWay___bool__ : He.DefD := dD ("NoWay", some "__bool__") "__bool__" "NoWay.__bool__" (inClass (top 29) 1)
def dd_NoWay___eq__ : He.DefD := dD ("NoWay", some "__eq__") "__eq__" "NoWay.__eq__" (inClass (top 29) 2)
def dd_NoWay_shows : He.DefD := dD ("NoWay", some "shows") "shows" "NoWay.shows" (inClass (top 29) 3)
def dd_check_sightings : He.DefD := dD ("check_sightings", none) "check_sightings" "check_sightings" (top 30)
def dd_is_way : He.DefD := dD ("is_way", none) "is_way" "is_way" (top 31)
def dd_least_way : He.DefD := dD ("least_way", none) "least_way" "least_way" (top 32)
def dd_at_night : He.DefD := dD ("at_night", none) "at_night" "at_night" (top 33)
def dd_seen : He.DefD := dD ("seen", none) "seen" "seen" (top 34)
def dd_check_way : He.DefD := dD ("check_way", none) "check_way" "check_way" (top 35)
def dd_is_seen : He.DefD := dD ("is_seen", none) "is_seen" "is_seen" (top 36)
def dd_way_of_two : He.DefD := dD ("way_of_two", none) "way_of_two" "way_of_two" (top 37)
def dd_ways_by : He.DefD := dD ("ways_by", none) "ways_by" "ways_by" (top 38)
def dd_judge_way : He.DefD := dD ("judge_way", none) "judge_way" "judge_way" (top 39)
def dd_bounds_at : He.DefD := dD ("bounds_at", none) "bounds_at" "bounds_at" (top 40)
def dd_is_within : He.DefD := dD ("is_within", none) "is_within" "is_within" (top 41)
def dd_nights_alike : He.DefD := dD ("nights_alike", none) "nights_alike" "nights_alike" (top 42)
def dd_circle_of : He.DefD := dD ("circle_of", none) "circle_of" "circle_of" (top 43)
def dd_side_of : He.DefD := dD ("side_of", none) "side_of" "side_of" (top 44)
def dd_Apart___init__ : He.DefD := dD ("Apart", some "__init__") "__init__" "Apart.__init__" (inClass (top 48) 0)
def dd_Apart___bool__ : He.DefD := dD ("Apart", some "__bool__") "__bool__" "Apart.__bool__" (inClass (top 48) 1)
def dd_Apart___eq__ : He.DefD := dD ("Apart", some "__eq__") "__eq__" "Apart.__eq__" (inClass (top 48) 2)
def dd_Apart_shows : He.DefD := dD ("Apart", some "shows") "shows" "Apart.shows" (inClass (top 48) 3)
def dd_Mixed___init__ : He.DefD := dD ("Mixed", some "__init__") "__init__" "Mixed.__init__" (inClass (top 49) 0)
def dd_Mixed___bool__ : He.DefD := dD ("Mixed", some "__bool__") "__bool__" "Mixed.__bool__" (inClass (top 49) 1)
def dd_Mixed___eq__ : He.DefD := dD ("Mixed", some "__eq__") "__eq__" "Mixed.__eq__" (inClass (top 49) 2)
def dd_Mixed_shows : He.DefD := dD ("Mixed", some "shows") "shows" "Mixed.shows" (inClass (top 49) 3)
def dd_NoBodies___bool__ : He.DefD := dD ("NoBodies", some "__bool__") "__bool__" "NoBodies.__bool__" (inClass (top 50) 0)
def dd_NoBodies___eq__ : He.DefD := dD ("NoBodies", some "__eq__") "__eq__" "NoBodies.__eq__" (inClass (top 50) 1)
def dd_NoBodies_shows : He.DefD := dD ("NoBodies", some "shows") "shows" "NoBodies.shows" (inClass (top 50) 2)
def dd_frozen : He.DefD := dD ("frozen", none) "frozen" "frozen" (top 51)
def dd_check_nights : He.DefD := dD ("check_nights", none) "check_nights" "check_nights" (top 52)
def dd_are_unlike : He.DefD := dD ("are_unlike", none) "are_unlike" "are_unlike" (top 53)
def dd_sightings_of : He.DefD := dD ("sightings_of", none) "sightings_of" "sightings_of" (top 54)
def dd_all_rows : He.DefD := dD ("all_rows", none) "all_rows" "all_rows" (top 55)
def dd_sortings : He.DefD := dD ("sortings", none) "sortings" "sortings" (top 56)
def dd_are_free : He.DefD := dD ("are_free", none) "are_free" "are_free" (top 57)
def dd_judge_apart : He.DefD := dD ("judge_apart", none) "judge_apart" "judge_apart" (top 58)
def dd__law_number : He.DefD := dD ("_law_number", none) "_law_number" "_law_number" (top 60)
def dd__law_take : He.DefD := dD ("_law_take", none) "_law_take" "_law_take" (top 61)
def dd__law_pick : He.DefD := dD ("_law_pick", none) "_law_pick" "_law_pick" (top 62)
def dd__law_sky : He.DefD := dD ("_law_sky", none) "_law_sky" "_law_sky" (top 63)
def dd__law_way : He.DefD := dD ("_law_way", none) "_law_way" "_law_way" (top 64)
def dd_law : He.DefD := dD ("law", none) "law" "law" (top 65)
def fn : List He.DefD := [dd__wall, dd_is_integer, dd_is_number, dd_check_number, dd_is_row, dd_common, dd_is_triple, dd_is_direction, dd_check_triple, dd_least, dd_opposite, dd_dot, dd_cross, dd_det, dd_plus, dd_times, dd_is_on_line, dd_is_between, dd_Way___init__, dd_Way___bool__, dd_Way___eq__, dd_Way_shows, dd_Ways___init__, dd_Ways___bool__, dd_Ways___eq__, dd_Ways_shows, dd_NoWay___init__, dd_NoWay___bool__, dd_NoWay___eq__, dd_NoWay_shows, dd_check_sightings, dd_is_way, dd_least_way, dd_at_night, dd_seen, dd_check_way, dd_is_seen, dd_way_of_two, dd_ways_by, dd_judge_way, dd_bounds_at, dd_is_within, dd_nights_alike, dd_circle_of, dd_side_of, dd_Apart___init__, dd_Apart___bool__, dd_Apart___eq__, dd_Apart_shows, dd_Mixed___init__, dd_Mixed___bool__, dd_Mixed___eq__, dd_Mixed_shows, dd_NoBodies___bool__, dd_NoBodies___eq__, dd_NoBodies_shows, dd_frozen, dd_check_nights, dd_are_unlike, dd_sightings_of, dd_all_rows, dd_sortings, dd_are_free, dd_judge_apart, dd__law_number, dd__law_take, dd__law_pick, dd__law_sky, dd__law_way, dd_law]
def fa : List He.Fa := [.glo "_wall", .glo "is_integer", .glo "is_number", .glo "check_number", .glo "is_row", .glo "common", .glo "is_triple", .glo "is_direction", .glo "check_triple", .glo "least", .glo "opposite", .glo "dot", .glo "cross", .glo "det", .glo "plus", .glo "times", .glo "is_on_line", .glo "is_between", .glo "check_sightings", .glo "is_way", .glo "least_way", .glo "at_night", .glo "seen", .glo "check_way", .glo "is_seen", .glo "way_of_two", .glo "ways_by", .glo "judge_way", .glo "bounds_at", .glo "is_within", .glo "nights_alike", .glo "circle_of", .glo "side_of", .glo "frozen", .glo "check_nights", .glo "are_unlike", .glo "sightings_of", .glo "all_rows", .glo "sortings", .glo "are_free", .glo "judge_apart", .glo "_law_number", .glo "_law_take", .glo "_law_pick", .glo "_law_sky", .glo "_law_way", .glo "law", .glo "Way", .glo "Ways", .glo "NoWay", .glo "Apart", .glo "Mixed", .glo "NoBodies", .free "isinstance", .free "len", .free "all", .free "any", .free "sum", .free "zip", .free "enumerate", .free "range", .free "tuple", .free "list", .free "set", .free "sorted", .free "max", .free "abs", .free "int", .free "bool", .free "super", .mkr "Way", .meth "Way" "__bool__", .meth "Way" "__eq__", .meth "Way" "shows", .mkr "Ways", .meth "Ways" "__bool__", .meth "Ways" "__eq__", .meth "Ways" "shows", .mkr "NoWay", .meth "NoWay" "__bool__", .meth "NoWay" "__eq__", .meth "NoWay" "shows", .mkr "Apart", .meth "Apart" "__bool__", .meth "Apart" "__eq__", .meth "Apart" "shows", .mkr "Mixed", .meth "Mixed" "__bool__", .meth "Mixed" "__eq__", .meth "Mixed" "shows", .meth "NoBodies" "__bool__", .meth "NoBodies" "__eq__", .meth "NoBodies" "shows", .int "MOST" 999999, .int "MOST_NIGHT" 99, .int "MOST_BODIES" 5, .int "MOST_ROWS" 5]
def cs : List Cn := [.Way, .Ways, .NoWay, .Apart, .Mixed, .NoBodies]
abbrev Bn := Bun cs fa fn
abbrev R : PySem.W.OpenRow := PySem.W.OpenLaw.row PySem.Challenge.rw_skyplaced_k91_time_the_other_way
abbrev hk : PySem.W.Hook := hookC 5 cs fa fn
def ob (s : PySem.W.SharedT) : He.AlD := obsCG 5 cs fa fn (HandSHeadRun.getT s)
theorem ob_eq (s : PySem.W.SharedT) : ob s = hk.obs s.abs := obsCG_eq (HandSHeadRun.getT_eq s)
def loose0 : List Str := ["_wall", "SkyError", "BadPart", "TooLarge", "is_integer", "is_number", "check_number", "is_row", "common", "MOST", "is_triple", "is_direction", "check_triple", "least", "opposite", "dot", "cross", "det", "plus", "times"]
def loose1 : List Str := ["is_on_line", "is_between", "MOST_NIGHT", "Way", "Ways", "NoWay", "check_sightings", "is_way", "least_way", "at_night", "seen", "check_way", "is_seen", "way_of_two", "ways_by", "judge_way", "bounds_at", "is_within", "nights_alike", "circle_of"]
def loose2 : List Str := ["side_of", "MOST_BODIES", "MOST_ROWS", "Apart", "Mixed", "NoBodies", "frozen", "check_nights", "are_unlike", "sightings_of", "all_rows", "sortings", "are_free", "judge_apart", "_law_number", "_law_take", "_law_pick", "_law_sky", "_law_way"]
def loose : List Str := loose0 ++ loose1 ++ loose2
theorem run (w : World) : HandSHeadRun.RunEq R (PySem.W.view R.prog [65]) hk ob 6000 loose w := by
  intro os
  kernel_rfl
end Sky
end
section
set_option maxHeartbeats 0
namespace Sky
open PySem PySem.Spec PyProof.Rows L2
def N_Way___eq__ : List Str := ["self", "other"]
theorem sc_Way___eq__ : FnScope N_Way___eq__ ["self", "other"] (defScope (inClass (top 27) 2)) := ⟨rfl, rfl, rfl, by decide +kernel, rfl, by decide +kernel, by decide +kernel⟩
def S_Way___eq__ : SemS := sSeq (sRet (dAndV (dIsi (.own .Way) (dV 1)) (dEq eq0 false (dTup (dCons (dFld "start" (dV 0)) (dCons (dFld "step" (dV 0)) (dNil)))) (dTup (dCons (dFld "start" (dV 1)) (dCons (dFld "step" (dV 1)) (dNil))))))) (sNext)
def F_Way___eq__ : Fn := runB 2 (S_Way___eq__)
theorem ok_Way___eq__ (B : Bn) : B.Ok ("Way", some "__eq__") 1 2 (F_Way___eq__) := by
  obtain ⟨fd, F⟩ := B.say.def_ (d := dd_Way___eq__) 20 rfl
  exact Bun.ok (k := 0) (N := N_Way___eq__) (ps := ["self", "other"]) (S := S_Way___eq__) F sc_Way___eq__ (fun _ _ _ _ _ _ us hl => match us, hl with | [_, _], _ => rfl) fun da me cdv A outer s H E i => (show DSs (B.G da me) (B.X N_Way___eq__ dd_Way___eq__.qual dd_Way___eq__.scope (He.fAd B.K ("Way", some "__eq__")) cdv A outer s H E) (defBody (inClass (top 27) 2)) (S_Way___eq__) from dss_cons (ds_ret (de_and rfl (de_isi rfl Bun.kit rfl (Bun.free 53 rfl) (Bun.klv (B.say.fact 47 rfl)) (DE.toR (de_var (pv 1))) (pe_own rfl (Bun.glo 47 rfl)) rfl rfl rfl) (de_one (de_eq rfl Bun.kit Bun.eq0Ok i.room.units (DE.toR (de_tup (da_cons (de_fld rfl (Bun.kit.cls) (de_var (pv 0)) rfl) (da_cons (de_fld rfl (Bun.kit.cls) (de_var (pv 0)) rfl) (da_nil) rfl) rfl))) (de_tup (da_cons (de_fld rfl (Bun.kit.cls) (de_var (pv 1)) rfl) (da_cons (de_fld rfl (Bun.kit.cls) (de_var (pv 1)) rfl) (da_nil) rfl) rfl)) rfl)))) (dss_nil))
def N_Ways___eq__ : List Str := ["self", "other"]
theorem sc_Ways___eq__ : FnScope N_Ways___eq__ ["self", "other"] (defScope (inClass (top 28) 2)) := ⟨rfl, rfl, rfl, by decide +kernel, rfl, by decide +kernel, by decide +kernel⟩
def S_Ways___eq__ : SemS := sSeq (sRet (dAndV (dIsi (.own .Ways) (dV 1)) (dEq eq0 false (dTup (dCons (dFld "one" (dV 0)) (dCons (dFld "other" (dV 0)) (dNil)))) (dTup (dCons (dFld "one" (dV 1)) (dCons (dFld "other" (dV 1)) (dNil))))))) (sNext)
def F_Ways___eq__ : Fn := runB 2 (S_Ways___eq__)
theorem ok_Ways___eq__ (B : Bn) : B.Ok ("Ways", some "__eq__") 1 2 (F_Ways___eq__) := by
  obtain ⟨fd, F⟩ := B.say.def_ (d := dd_Ways___eq__) 24 rfl
  exact Bun.ok (k := 0) (N := N_Ways___eq__) (ps := ["self", "other"]) (S := S_Ways___eq__) F sc_Ways___eq__ (fun _ _ _ _ _ _ us hl => match us, hl with | [_, _], _ => rfl) fun da me cdv A outer s H E i => (show DSs (B.G da me) (B.X N_Ways___eq__ dd_Ways___eq__.qual dd_Ways___eq__.scope (He.fAd B.K ("Ways", some "__eq__")) cdv A outer s H E) (defBody (inClass (top 28) 2)) (S_Ways___eq__) from dss_cons (ds_ret (de_and rfl (de_isi rfl Bun.kit rfl (Bun.free 53 rfl) (Bun.klv (B.say.fact 48 rfl)) (DE.toR (de_var (pv 1))) (pe_own rfl (Bun.glo 48 rfl)) rfl rfl rfl) (de_one (de_eq rfl Bun.kit Bun.eq0Ok i.room.units (DE.toR (de_tup (da_cons (de_fld rfl (Bun.kit.cls) (de_var (pv 0)) rfl) (da_cons (de_fld rfl (Bun.kit.cls) (de_var (pv 0)) rfl) (da_nil) rfl) rfl))) (de_tup (da_cons (de_fld rfl (Bun.kit.cls) (de_var (pv 1)) rfl) (da_cons (de_fld rfl (Bun.kit.cls) (de_var (pv 1)) rfl) (da_nil) rfl) rfl)) rfl)))) (dss_nil))
def N_NoWay___eq__ : List Str := ["self", "other"]
theorem sc_NoWay___eq__ : FnScope N_NoWay___eq__ ["self", "other"] (defScope (inClass (top 29) 2)) := ⟨rfl, rfl, rfl, by decide +kernel, rfl, by decide +kernel, by decide +kernel⟩
def S_NoWay___eq__ : SemS := sSeq (sRet (dAndV (dIsi (.own .NoWay) (dV 1)) (dEq eq0 false (dFld "places" (dV 0)) (dFld "places" (dV 1))))) (sNext)
def F_NoWay___eq__ : Fn := runB 2 (S_NoWay___eq__)
theorem ok_NoWay___eq__ (B : Bn) : B.Ok ("NoWay", some "__eq__") 1 2 (F_NoWay___eq__) := by
  obtain ⟨fd, F⟩ := B.say.def_ (d := dd_NoWay___eq__) 28 rfl
  exact Bun.ok (k := 0) (N := N_NoWay___eq__) (ps := ["self", "other"]) (S := S_NoWay___eq__) F sc_NoWay___eq__ (fun _ _ _ _ _ _ us hl => match us, hl with | [_, _], _ => rfl) fun da me cdv A outer s H E i => (show DSs (B.G da me) (B.X N_NoWay___eq__ dd_NoWay___eq__.qual dd_NoWay___eq__.scope (He.fAd B.K ("NoWay", some "__eq__")) cdv A outer s H E) (defBody (inClass (top 29) 2)) (S_NoWay___eq__) from dss_cons (ds_ret (de_and rfl (de_isi rfl Bun.kit rfl (Bun.free 53 rfl) (Bun.klv (B.say.fact 49 rfl)) (DE.toR (de_var (pv 1))) (pe_own rfl (Bun.glo 49 rfl)) rfl rfl rfl) (de_one (de_eq rfl Bun.kit Bun.eq0Ok i.room.units (DE.toR (de_fld rfl (Bun.kit.cls) (de_var (pv 0)) rfl)) (de_fld rfl (Bun.kit.cls) (de_var (pv 1)) rfl) rfl)))) (dss_nil))
def N_Apart___eq__ : List Str := ["self", "other"]
theorem sc_Apart___eq__ : FnScope N_Apart___eq__ ["self", "other"] (defScope (inClass (top 48) 2)) := ⟨rfl, rfl, rfl, by decide +kernel, rfl, by decide +kernel, by decide +kernel⟩
def S_Apart___eq__ : SemS := sSeq (sRet (dAndV (dIsi (.own .Apart) (dV 1)) (dEq eq0 false (dFld "rows" (dV 0)) (dFld "rows" (dV 1))))) (sNext)
def F_Apart___eq__ : Fn := runB 2 (S_Apart___eq__)
theorem ok_Apart___eq__ (B : Bn) : B.Ok ("Apart", some "__eq__") 1 2 (F_Apart___eq__) := by
  obtain ⟨fd, F⟩ := B.say.def_ (d := dd_Apart___eq__) 47 rfl
  exact Bun.ok (k := 0) (N := N_Apart___eq__) (ps := ["self", "other"]) (S := S_Apart___eq__) F sc_Apart___eq__ (fun _ _ _ _ _ _ us hl => match us, hl with | [_, _], _ => rfl) fun da me cdv A outer s H E i => (show DSs (B.G da me) (B.X N_Apart___eq__ dd_Apart___eq__.qual dd_Apart___eq__.scope (He.fAd B.K ("Apart", some "__eq__")) cdv A outer s H E) (defBody (inClass (top 48) 2)) (S_Apart___eq__) from dss_cons (ds_ret (de_and rfl (de_isi rfl Bun.kit rfl (Bun.free 53 rfl) (Bun.klv (B.say.fact 50 rfl)) (DE.toR (de_var (pv 1))) (pe_own rfl (Bun.glo 50 rfl)) rfl rfl rfl) (de_one (de_eq rfl Bun.kit Bun.eq0Ok i.room.units (DE.toR (de_fld rfl (Bun.kit.cls) (de_var (pv 0)) rfl)) (de_fld rfl (Bun.kit.cls) (de_var (pv 1)) rfl) rfl)))) (dss_nil))
def N_Mixed___eq__ : List Str := ["self", "other"]
theorem sc_Mixed___eq__ : FnScope N_Mixed___eq__ ["self", "other"] (defScope (inClass (top 49) 2)) := ⟨rfl, rfl, rfl, by decide +kernel, rfl, by decide +kernel, by decide +kernel⟩
def S_Mixed___eq__ : SemS := sSeq (sRet (dAndV (dIsi (.own .Mixed) (dV 1)) (dEq eq0 false (dTup (dCons (dFld "one" (dV 0)) (dCons (dFld "other" (dV 0)) (dNil)))) (dTup (dCons (dFld "one" (dV 1)) (dCons (dFld "other" (dV 1)) (dNil))))))) (sNext)
def F_Mixed___eq__ : Fn := runB 2 (S_Mixed___eq__)
theorem ok_Mixed___eq__ (B : Bn) : B.Ok ("Mixed", some "__eq__") 1 2 (F_Mixed___eq__) := by
  obtain ⟨fd, F⟩ := B.say.def_ (d := dd_Mixed___eq__) 51 rfl
  exact Bun.ok (k := 0) (N := N_Mixed___eq__) (ps := ["self", "other"]) (S := S_Mixed___eq__) F sc_Mixed___eq__ (fun _ _ _ _ _ _ us hl => match us, hl with | [_, _], _ => rfl) fun da me cdv A outer s H E i => (show DSs (B.G da me) (B.X N_Mixed___eq__ dd_Mixed___eq__.qual dd_Mixed___eq__.scope (He.fAd B.K ("Mixed", some "__eq__")) cdv A outer s H E) (defBody (inClass (top 49) 2)) (S_Mixed___eq__) from dss_cons (ds_ret (de_and rfl (de_isi rfl Bun.kit rfl (Bun.free 53 rfl) (Bun.klv (B.say.fact 51 rfl)) (DE.toR (de_var (pv 1))) (pe_own rfl (Bun.glo 51 rfl)) rfl rfl rfl) (de_one (de_eq rfl Bun.kit Bun.eq0Ok i.room.units (DE.toR (de_tup (da_cons (de_fld rfl (Bun.kit.cls) (de_var (pv 0)) rfl) (da_cons (de_fld rfl (Bun.kit.cls) (de_var (pv 0)) rfl) (da_nil) rfl) rfl))) (de_tup (da_cons (de_fld rfl (Bun.kit.cls) (de_var (pv 1)) rfl) (da_cons (de_fld rfl (Bun.kit.cls) (de_var (pv 1)) rfl) (da_nil) rfl) rfl)) rfl)))) (dss_nil))
def N_NoBodies___eq__ : List Str := ["self", "other"]
theorem sc_NoBodies___eq__ : FnScope N_NoBodies___eq__ ["self", "other"] (defScope (inClass (top 50) 1)) := ⟨rfl, rfl, rfl, by decide +kernel, rfl, by decide +kernel, by decide +kernel⟩
def S_NoBodies___eq__ : SemS := sSeq (sRet (dIsi (.own .NoBodies) (dV 1))) (sNext)
def F_NoBodies___eq__ : Fn := runB 2 (S_NoBodies___eq__)
theorem ok_NoBodies___eq__ (B : Bn) : B.Ok ("NoBodies", some "__eq__") 1 2 (F_NoBodies___eq__) := by
  obtain ⟨fd, F⟩ := B.say.def_ (d := dd_NoBodies___eq__) 54 rfl
  exact Bun.ok (k := 0) (N := N_NoBodies___eq__) (ps := ["self", "other"]) (S := S_NoBodies___eq__) F sc_NoBodies___eq__ (fun _ _ _ _ _ _ us hl => match us, hl with | [_, _], _ => rfl) fun da me cdv A outer s H E i => (show DSs (B.G da me) (B.X N_NoBodies___eq__ dd_NoBodies___eq__.qual dd_NoBodies___eq__.scope (He.fAd B.K ("NoBodies", some "__eq__")) cdv A outer s H E) (defBody (inClass (top 50) 1)) (S_NoBodies___eq__) from dss_cons (ds_ret (de_isi rfl Bun.kit rfl (Bun.free 53 rfl) (Bun.klv (B.say.fact 52 rfl)) (DE.toR (de_var (pv 1))) (pe_own rfl (Bun.glo 52 rfl)) rfl rfl rfl)) (dss_nil))
def eqT : Eqt := fun c => match c with
  | .Way => some F_Way___eq__
  | .Ways => some F_Ways___eq__
  | .NoWay => some F_NoWay___eq__
  | .Apart => some F_Apart___eq__
  | .Mixed => some F_Mixed___eq__
  | .NoBodies => some F_NoBodies___eq__
  | _ => none
theorem eqRow (B : Bn) {k : Nat} (hk : 2 ≤ k) : B.EqRow k eqT := by
  intro c F h
  cases c <;> first | (cases h; first | exact ⟨1, Nat.le_trans (by decide) hk, ok_Way___eq__ B, B.say.fact 72 rfl⟩ | exact ⟨1, Nat.le_trans (by decide) hk, ok_Ways___eq__ B, B.say.fact 76 rfl⟩ | exact ⟨1, Nat.le_trans (by decide) hk, ok_NoWay___eq__ B, B.say.fact 80 rfl⟩ | exact ⟨1, Nat.le_trans (by decide) hk, ok_Apart___eq__ B, B.say.fact 84 rfl⟩ | exact ⟨1, Nat.le_trans (by decide) hk, ok_Mixed___eq__ B, B.say.fact 88 rfl⟩ | exact ⟨1, Nat.le_trans (by decide) hk, ok_NoBodies___eq__ B, B.say.fact 91 rfl⟩) | (cases h)
def N__wall : List Str := ["k"]
theorem sc__wall : FnScope N__wall ["k"] (defScope (top 0)) := ⟨rfl, rfl, rfl, by decide +kernel, rfl, by decide +kernel, by decide +kernel⟩
def S__wall : SemS := sSeq (sWh (fuelN 1000) (dTru (dC (.bl true))) (sSeq (sNext) (sNext))) (sNext)
def F__wall : Fn := runB 1 (S__wall)
theorem ok__wall (B : Bn) : B.Ok ("_wall", none) 1 1 (F__wall) := by
  obtain ⟨fd, F⟩ := B.say.def_ (d := dd__wall) 0 rfl
  exact Bun.ok (k := 0) (N := N__wall) (ps := ["k"]) (S := S__wall) F sc__wall (fun _ _ _ _ _ _ us hl => match us, hl with | [_], _ => rfl) fun da me cdv A outer s H E i => (show DSs (B.G da me) (B.X N__wall dd__wall.qual dd__wall.scope (He.fAd B.K ("_wall", none)) cdv A outer s H E) (defBody (top 0)) (S__wall) from dss_cons (ds_wh (fuelN 1000) PassesOwn.never (dt_tru rfl (DE.toR (de_const pe_bl (fun _ => Rep.bl _))) (fun _ => rfl)) (dss_cons (ds_pass) (dss_nil))) (dss_nil))
def N_is_integer : List Str := ["thing"]
theorem sc_is_integer : FnScope N_is_integer ["thing"] (defScope (top 6)) := ⟨rfl, rfl, rfl, by decide +kernel, rfl, by decide +kernel, by decide +kernel⟩
def S_is_integer : SemS := sSeq (sRet (dAndV (dIsi .int (dV 0)) (dNotV (dIsi .bool (dV 0))))) (sNext)
def F_is_integer : Fn := runB 1 (S_is_integer)
theorem ok_is_integer (B : Bn) : B.Ok ("is_integer", none) 1 1 (F_is_integer) := by
  obtain ⟨fd, F⟩ := B.say.def_ (d := dd_is_integer) 1 rfl
  exact Bun.ok (k := 0) (N := N_is_integer) (ps := ["thing"]) (S := S_is_integer) F sc_is_integer (fun _ _ _ _ _ _ us hl => match us, hl with | [_], _ => rfl) fun da me cdv A outer s H E i => (show DSs (B.G da me) (B.X N_is_integer dd_is_integer.qual dd_is_integer.scope (He.fAd B.K ("is_integer", none)) cdv A outer s H E) (defBody (top 6)) (S_is_integer) from dss_cons (ds_ret (de_and rfl (de_isi rfl Bun.kit rfl (Bun.free 53 rfl) rfl (DE.toR (de_var (pv 0))) (pe_tyB "int" rfl (Bun.free 67 rfl) (by decide +kernel)) rfl rfl rfl) (de_one (de_not rfl (DE.toR (de_isi rfl Bun.kit rfl (Bun.free 53 rfl) rfl (DE.toR (de_var (pv 0))) (pe_tyB "bool" rfl (Bun.free 68 rfl) (by decide +kernel)) rfl rfl rfl)))))) (dss_nil))
def N_is_number : List Str := ["thing", "low", "high"]
theorem sc_is_number : FnScope N_is_number ["thing", "low", "high"] (defScope (top 7)) := ⟨rfl, rfl, rfl, by decide +kernel, rfl, by decide +kernel, by decide +kernel⟩
def S_is_number : SemS := sSeq (sRet (dAndV (dCall 1 F_is_integer (dCons (dV 0) (dNil))) (dVal (dChain cLe cLe (dV 1) (dV 0) (dV 2))))) (sNext)
def F_is_number : Fn := runB 3 (S_is_number)
theorem ok_is_number (B : Bn) : B.Ok ("is_number", none) 2 3 (F_is_number) := by
  obtain ⟨fd, F⟩ := B.say.def_ (d := dd_is_number) 2 rfl
  exact Bun.ok (k := 1) (N := N_is_number) (ps := ["thing", "low", "high"]) (S := S_is_number) F sc_is_number (fun _ _ _ _ _ _ us hl => match us, hl with | [_, _, _], _ => rfl) fun da me cdv A outer s H E i => (show DSs (B.G da me) (B.X N_is_number dd_is_number.qual dd_is_number.scope (He.fAd B.K ("is_number", none)) cdv A outer s H E) (defBody (top 7)) (S_is_number) from dss_cons (ds_ret (de_and rfl (de_call (Bun.call (ok_is_integer B) i (by decide) (Bun.glo 1 rfl)) rfl (da_cons (de_var (pv 0)) (da_nil) rfl) rfl rfl rfl) (de_one (de_chain op_le op_le rd_le rd_le (DE.toR (de_var (pv 1))) (DE.toR (de_var (pv 0))) (DE.toR (de_var (pv 2))) rfl)))) (dss_nil))
def N_check_number : List Str := ["part", "thing", "low", "high"]
theorem sc_check_number : FnScope N_check_number ["part", "thing", "low", "high"] (defScope (top 8)) := ⟨rfl, rfl, rfl, by decide +kernel, rfl, by decide +kernel, by decide +kernel⟩
def S_check_number : SemS := sSeq (sIf (dNotB (dTru (dCall 3 F_is_number (dCons (dV 1) (dCons (dV 2) (dCons (dV 3) (dNil))))))) (sFail) (sNext)) (sNext)
def F_check_number : Fn := runB 4 (S_check_number)
theorem ok_check_number (B : Bn) : B.Ok ("check_number", none) 3 4 (F_check_number) := by
  obtain ⟨fd, F⟩ := B.say.def_ (d := dd_check_number) 3 rfl
  exact Bun.ok (k := 2) (N := N_check_number) (ps := ["part", "thing", "low", "high"]) (S := S_check_number) F sc_check_number (fun _ _ _ _ _ _ us hl => match us, hl with | [_, _, _, _], _ => rfl) fun da me cdv A outer s H E i => (show DSs (B.G da me) (B.X N_check_number dd_check_number.qual dd_check_number.scope (He.fAd B.K ("check_number", none)) cdv A outer s H E) (defBody (top 8)) (S_check_number) from dss_cons (ds_if (dt_not (dt_tru rfl (DE.toR (de_call (Bun.call (ok_is_number B) i (by decide) (Bun.glo 2 rfl)) rfl (da_cons (de_var (pv 1)) (da_cons (de_var (pv 2)) (da_cons (de_var (pv 3)) (da_nil) rfl) rfl) rfl) rfl rfl rfl)) (fun _ => rfl))) (dss_fail) (dss_nil)) (dss_nil))
def N_is_row : List Str := ["thing"]
theorem sc_is_row : FnScope N_is_row ["thing"] (defScope (top 9)) := ⟨rfl, rfl, rfl, by decide +kernel, rfl, by decide +kernel, by decide +kernel⟩
def S_is_row : SemS := sSeq (sRet (dIsiT [.list, .tuple] (dV 0))) (sNext)
def F_is_row : Fn := runB 1 (S_is_row)
theorem ok_is_row (B : Bn) : B.Ok ("is_row", none) 1 1 (F_is_row) := by
  obtain ⟨fd, F⟩ := B.say.def_ (d := dd_is_row) 4 rfl
  exact Bun.ok (k := 0) (N := N_is_row) (ps := ["thing"]) (S := S_is_row) F sc_is_row (fun _ _ _ _ _ _ us hl => match us, hl with | [_], _ => rfl) fun da me cdv A outer s H E i => (show DSs (B.G da me) (B.X N_is_row dd_is_row.qual dd_is_row.scope (He.fAd B.K ("is_row", none)) cdv A outer s H E) (defBody (top 9)) (S_is_row) from dss_cons (ds_ret (de_isiT rfl Bun.kit rfl (Bun.free 53 rfl) rfl (DE.toR (de_var (pv 0))) (pa_vs (pe_tyB "list" rfl (Bun.free 62 rfl) (by decide +kernel)) (pa_vs (pe_tyB "tuple" rfl (Bun.free 61 rfl) (by decide +kernel)) (pa_vs_nil) rfl) rfl) (by decide) rfl rfl rfl)) (dss_nil))
def N_common : List Str := ["one", "other"]
theorem sc_common : FnScope N_common ["one", "other"] (defScope (top 10)) := ⟨rfl, rfl, rfl, by decide +kernel, rfl, by decide +kernel, by decide +kernel⟩
def S_common : SemS := sSeq (sPar2 0 1 (dBi bAbs (dCons (dV 0) (dNil))) (dBi bAbs (dCons (dV 1) (dNil)))) (sSeq (sWh (fuelI 1) (dBinB cGtA (dV 1) (dC (.int 0))) (sSeq (sPar2 0 1 (dV 1) (dBin D.mod (dV 0) (dV 1))) (sNext))) (sSeq (sRet (dV 0)) (sNext)))
def F_common : Fn := runB 2 (S_common)
theorem ok_common (B : Bn) : B.Ok ("common", none) 1 2 (F_common) := by
  obtain ⟨fd, F⟩ := B.say.def_ (d := dd_common) 5 rfl
  exact Bun.ok (k := 0) (N := N_common) (ps := ["one", "other"]) (S := S_common) F sc_common (fun _ _ _ _ _ _ us hl => match us, hl with | [_, _], _ => rfl) fun da me cdv A outer s H E i => (show DSs (B.G da me) (B.X N_common dd_common.qual dd_common.scope (He.fAd B.K ("common", none)) cdv A outer s H E) (defBody (top 10)) (S_common) from dss_cons (ds_par2 (ps_par (i := 0) (j := 1) rfl sc_common.nd rfl rfl (by decide) rfl rfl (da_cons (de_callB call_abs bAbs_ok rfl (Bun.free 66 rfl) (by decide +kernel) (dra_cons (DE.toR (de_var (pv 0))) (dra_nil) rfl) (by decide) rfl rfl rfl) (da_cons (de_callB call_abs bAbs_ok rfl (Bun.free 66 rfl) (by decide +kernel) (dra_cons (DE.toR (de_var (pv 1))) (dra_nil) rfl) (by decide) rfl rfl rfl) (da_nil) rfl) rfl) rfl rfl)) (dss_cons (ds_wh (fuelI 1) PassesOwn.never (dc_test (op_gtA i.room.units0) rd_gtA (DE.toR (de_var (pv 1))) (DE.toR (de_const pe_int (fun _ => Rep.int _))) rfl) (dss_cons (ds_par2 (ps_par (i := 0) (j := 1) rfl sc_common.nd rfl rfl (by decide) rfl rfl (da_cons (de_var (pv 1)) (da_cons (de_op op_mod rd_mod (DE.toR (de_var (pv 0))) (DE.toR (de_var (pv 1)))) (da_nil) rfl) rfl) rfl rfl)) (dss_nil))) (dss_cons (ds_ret (de_var (pv 0))) (dss_nil))))
def N_is_triple : List Str := ["thing", "one"]
theorem sc_is_triple : FnScope N_is_triple ["thing"] (defScope (top 13)) := ⟨rfl, rfl, rfl, by decide +kernel, rfl, by decide +kernel, by decide +kernel⟩
def S_is_triple : SemS := sSeq (sIf (dOrB (dNotB (dTru (dIsi .tuple (dV 0)))) (dOrB (dEqB eqT true (dBi bLen (dCons (dV 0) (dNil))) (dC (.int 3))) (dNotB (dTru (dBi bAll (dCons (dLc [1] (dItems (dV 0)) (tgName 1) (dTrue) (dCall 1 F_is_integer (dCons (dV 1) (dNil)))) (dNil))))))) (sSeq (sRet (dC (.bl false))) (sNext)) (sNext)) (sSeq (sRet (dEq eqT true (dV 0) (dTup (dCons (dC (.int 0)) (dCons (dC (.int 0)) (dCons (dC (.int 0)) (dNil))))))) (sNext))
def F_is_triple : Fn := runB 2 (S_is_triple)
theorem ok_is_triple (B : Bn) : B.Ok ("is_triple", none) 3 1 (F_is_triple) := by
  obtain ⟨fd, F⟩ := B.say.def_ (d := dd_is_triple) 6 rfl
  exact Bun.ok (k := 2) (N := N_is_triple) (ps := ["thing"]) (S := S_is_triple) F sc_is_triple (fun _ _ _ _ _ _ us hl => match us, hl with | [_], _ => rfl) fun da me cdv A outer s H E i => (show DSs (B.G da me) (B.X N_is_triple dd_is_triple.qual dd_is_triple.scope (He.fAd B.K ("is_triple", none)) cdv A outer s H E) (defBody (top 13)) (S_is_triple) from dss_cons (ds_if (PW.pt (dw_or (dt_not (dt_tru rfl (DE.toR (de_isi rfl Bun.kit rfl (Bun.free 53 rfl) rfl (DE.toR (de_var (pv 0))) (pe_tyB "tuple" rfl (Bun.free 61 rfl) (by decide +kernel)) rfl rfl rfl)) (fun _ => rfl))) (dw_or (dt_ne rfl Bun.kit (Bun.eqOk (eqRow B (by decide)) i) i.room.units (DE.toR (de_callB call_len bLen_ok rfl (Bun.free 54 rfl) (by decide +kernel) (dra_cons (DE.toR (de_var (pv 0))) (dra_nil) rfl) (by decide) rfl rfl rfl)) (de_const pe_int (fun _ => Rep.int _)) rfl) (dw_or1 (dt_not (dt_tru rfl (DE.toR (de_callB (cr_all rfl) bAll_ok rfl (Bun.free 55 rfl) (by decide +kernel) (dra_cons (DE.toR (de_lc rfl sc_is_triple.nd (di_seq rfl (de_var (pv 0))) (blkOk_by (own := [("one", 1)]) rfl) (fun _ _ _ _ _ => dg_name (pg_name sc_is_triple.nd rfl (by first | exact Or.inl rfl | exact Or.inr rfl) (by first | exact .inl rfl | exact .inr rfl))) (fun _ _ _ _ _ => dts_nil) (fun _ _ _ _ _ => de_call (Bun.call (ok_is_integer B) i.blk (by decide) (Bun.glo 1 rfl)) rfl (da_cons (de_var (pv 1)) (da_nil) rfl) rfl rfl rfl) (by decide) (fun _ => rfl) rfl)) (dra_nil) rfl) (by decide) rfl rfl rfl)) (fun _ => rfl))))))) (dss_cons (ds_ret (de_const pe_bl (fun _ => Rep.bl _))) (dss_nil)) (dss_nil)) (dss_cons (ds_ret (de_ne rfl Bun.kit (Bun.eqOk (eqRow B (by decide)) i) i.room.units (DE.toR (de_var (pv 0))) (de_tup (da_cons (de_const pe_int (fun _ => Rep.int _)) (da_cons (de_const pe_int (fun _ => Rep.int _)) (da_cons (de_const pe_int (fun _ => Rep.int _)) (da_nil) rfl) rfl) rfl)) rfl)) (dss_nil)))
def N_is_direction : List Str := ["thing", "one"]
theorem sc_is_direction : FnScope N_is_direction ["thing"] (defScope (top 14)) := ⟨rfl, rfl, rfl, by decide +kernel, rfl, by decide +kernel, by decide +kernel⟩
def S_is_direction : SemS := sSeq (sRet (dAndV (dCall 1 F_is_triple (dCons (dV 0) (dNil))) (dBi bAll (dCons (dLc [1] (dItems (dV 0)) (tgName 1) (dTrue) (dCall 3 F_is_number (dCons (dV 1) (dCons (dUn D.neg (dC (.int 999999))) (dCons (dC (.int 999999)) (dNil)))))) (dNil))))) (sNext)
def F_is_direction : Fn := runB 2 (S_is_direction)
theorem ok_is_direction (B : Bn) : B.Ok ("is_direction", none) 4 1 (F_is_direction) := by
  obtain ⟨fd, F⟩ := B.say.def_ (d := dd_is_direction) 7 rfl
  exact Bun.ok (k := 3) (N := N_is_direction) (ps := ["thing"]) (S := S_is_direction) F sc_is_direction (fun _ _ _ _ _ _ us hl => match us, hl with | [_], _ => rfl) fun da me cdv A outer s H E i => (show DSs (B.G da me) (B.X N_is_direction dd_is_direction.qual dd_is_direction.scope (He.fAd B.K ("is_direction", none)) cdv A outer s H E) (defBody (top 14)) (S_is_direction) from dss_cons (ds_ret (de_and rfl (de_call (Bun.call (ok_is_triple B) i (by decide) (Bun.glo 6 rfl)) rfl (da_cons (de_var (pv 0)) (da_nil) rfl) rfl rfl rfl) (de_one (de_callB (cr_all rfl) bAll_ok rfl (Bun.free 55 rfl) (by decide +kernel) (dra_cons (DE.toR (de_lc rfl sc_is_direction.nd (di_seq rfl (de_var (pv 0))) (blkOk_by (own := [("one", 1)]) rfl) (fun _ _ _ _ _ => dg_name (pg_name sc_is_direction.nd rfl (by first | exact Or.inl rfl | exact Or.inr rfl) (by first | exact .inl rfl | exact .inr rfl))) (fun _ _ _ _ _ => dts_nil) (fun _ _ _ _ _ => de_call (Bun.call (ok_is_number B) i.blk (by decide) (Bun.glo 2 rfl)) rfl (da_cons (de_var (pv 1)) (da_cons (de_neg (de_int (He.int_ok B.hIn B.hNs (B.say.fact 93 rfl)) rfl)) (da_cons (de_int (He.int_ok B.hIn B.hNs (B.say.fact 93 rfl)) rfl) (da_nil) rfl) rfl) rfl) rfl rfl rfl) (by decide) (fun _ => rfl) rfl)) (dra_nil) rfl) (by decide) rfl rfl rfl)))) (dss_nil))
def N_check_triple : List Str := ["part", "thing"]
theorem sc_check_triple : FnScope N_check_triple ["part", "thing"] (defScope (top 15)) := ⟨rfl, rfl, rfl, by decide +kernel, rfl, by decide +kernel, by decide +kernel⟩
def S_check_triple : SemS := sSeq (sIf (dNotB (dTru (dCall 1 F_is_triple (dCons (dV 1) (dNil))))) (sFail) (sNext)) (sNext)
def F_check_triple : Fn := runB 2 (S_check_triple)
theorem ok_check_triple (B : Bn) : B.Ok ("check_triple", none) 4 2 (F_check_triple) := by
  obtain ⟨fd, F⟩ := B.say.def_ (d := dd_check_triple) 8 rfl
  exact Bun.ok (k := 3) (N := N_check_triple) (ps := ["part", "thing"]) (S := S_check_triple) F sc_check_triple (fun _ _ _ _ _ _ us hl => match us, hl with | [_, _], _ => rfl) fun da me cdv A outer s H E i => (show DSs (B.G da me) (B.X N_check_triple dd_check_triple.qual dd_check_triple.scope (He.fAd B.K ("check_triple", none)) cdv A outer s H E) (defBody (top 15)) (S_check_triple) from dss_cons (ds_if (dt_not (dt_tru rfl (DE.toR (de_call (Bun.call (ok_is_triple B) i (by decide) (Bun.glo 6 rfl)) rfl (da_cons (de_var (pv 1)) (da_nil) rfl) rfl rfl rfl)) (fun _ => rfl))) (dss_fail) (dss_nil)) (dss_nil))
def N_least : List Str := ["direction", "divisor", "one"]
theorem sc_least : FnScope N_least ["direction"] (defScope (top 16)) := ⟨rfl, rfl, rfl, by decide +kernel, rfl, by decide +kernel, by decide +kernel⟩
def S_least : SemS := sSeq (sDrop (dCall 2 F_check_triple (dCons (dC (.str "direction")) (dCons (dV 0) (dNil))))) (sSeq (sAsg (dCall 2 F_common (dCons (dCall 2 F_common (dCons (dBin D.ix (dV 0) (dC (.int 0))) (dCons (dBin D.ix (dV 0) (dC (.int 1))) (dNil)))) (dCons (dBin D.ix (dV 0) (dC (.int 2))) (dNil)))) (tgName 1)) (sSeq (sRet (dBi bTup (dCons (dLc [2] (dItems (dV 0)) (tgName 2) (dTrue) (dBin D.fdiv (dV 2) (dV 1))) (dNil)))) (sNext)))
def F_least : Fn := runB 3 (S_least)
theorem ok_least (B : Bn) : B.Ok ("least", none) 5 1 (F_least) := by
  obtain ⟨fd, F⟩ := B.say.def_ (d := dd_least) 9 rfl
  exact Bun.ok (k := 4) (N := N_least) (ps := ["direction"]) (S := S_least) F sc_least (fun _ _ _ _ _ _ us hl => match us, hl with | [_], _ => rfl) fun da me cdv A outer s H E i => (show DSs (B.G da me) (B.X N_least dd_least.qual dd_least.scope (He.fAd B.K ("least", none)) cdv A outer s H E) (defBody (top 16)) (S_least) from dss_cons (ds_expr (de_call (Bun.call (ok_check_triple B) i (by decide) (Bun.glo 8 rfl)) rfl (da_cons (de_const pe_str (fun _ => Rep.str _)) (da_cons (de_var (pv 0)) (da_nil) rfl) rfl) rfl rfl rfl) rfl) (dss_cons (ds_asg (de_call (Bun.call (ok_common B) i (by decide) (Bun.glo 5 rfl)) rfl (da_cons (de_call (Bun.call (ok_common B) i (by decide) (Bun.glo 5 rfl)) rfl (da_cons (de_ix rfl (DE.toR (de_var (pv 0))) (DE.toR (de_const pe_int (fun _ => Rep.int _))) (fun _ _ => rfl)) (da_cons (de_ix rfl (DE.toR (de_var (pv 0))) (DE.toR (de_const pe_int (fun _ => Rep.int _))) (fun _ _ => rfl)) (da_nil) rfl) rfl) rfl rfl rfl) (da_cons (de_ix rfl (DE.toR (de_var (pv 0))) (DE.toR (de_const pe_int (fun _ => Rep.int _))) (fun _ _ => rfl)) (da_nil) rfl) rfl) rfl rfl rfl) (dg_name (pg_name sc_least.nd rfl (by first | exact Or.inl rfl | exact Or.inr rfl) (by first | exact .inl rfl | exact .inr rfl))) rfl rfl rfl) (dss_cons (ds_ret (de_callT call_tuple_of bTup_ok rfl (Bun.free 61 rfl) (by decide +kernel) (dra_cons (DE.toR (de_lc rfl sc_least.nd (di_seq rfl (de_var (pv 0))) (blkOk_by (own := [("one", 2)]) rfl) (fun _ _ _ _ _ => dg_name (pg_name sc_least.nd rfl (by first | exact Or.inl rfl | exact Or.inr rfl) (by first | exact .inl rfl | exact .inr rfl))) (fun _ _ _ _ _ => dts_nil) (fun _ _ _ _ _ => de_op op_fdivW rd_fdiv (DE.toR (de_var (pv 2))) (DE.toR (de_var (pv 1)))) (by decide) (fun _ => rfl) rfl)) (dra_nil) rfl) (by decide) rfl rfl rfl)) (dss_nil))))
def N_opposite : List Str := ["direction", "one"]
theorem sc_opposite : FnScope N_opposite ["direction"] (defScope (top 17)) := ⟨rfl, rfl, rfl, by decide +kernel, rfl, by decide +kernel, by decide +kernel⟩
def S_opposite : SemS := sSeq (sRet (dBi bTup (dCons (dLc [1] (dItems (dCall 1 F_least (dCons (dV 0) (dNil)))) (tgName 1) (dTrue) (dUn D.neg (dV 1))) (dNil)))) (sNext)
def F_opposite : Fn := runB 2 (S_opposite)
theorem ok_opposite (B : Bn) : B.Ok ("opposite", none) 6 1 (F_opposite) := by
  obtain ⟨fd, F⟩ := B.say.def_ (d := dd_opposite) 10 rfl
  exact Bun.ok (k := 5) (N := N_opposite) (ps := ["direction"]) (S := S_opposite) F sc_opposite (fun _ _ _ _ _ _ us hl => match us, hl with | [_], _ => rfl) fun da me cdv A outer s H E i => (show DSs (B.G da me) (B.X N_opposite dd_opposite.qual dd_opposite.scope (He.fAd B.K ("opposite", none)) cdv A outer s H E) (defBody (top 17)) (S_opposite) from dss_cons (ds_ret (de_callT call_tuple_of bTup_ok rfl (Bun.free 61 rfl) (by decide +kernel) (dra_cons (DE.toR (de_lc rfl sc_opposite.nd (di_seq rfl (de_call (Bun.call (ok_least B) i (by decide) (Bun.glo 9 rfl)) rfl (da_cons (de_var (pv 0)) (da_nil) rfl) rfl rfl rfl)) (blkOk_by (own := [("one", 1)]) rfl) (fun _ _ _ _ _ => dg_name (pg_name sc_opposite.nd rfl (by first | exact Or.inl rfl | exact Or.inr rfl) (by first | exact .inl rfl | exact .inr rfl))) (fun _ _ _ _ _ => dts_nil) (fun _ _ _ _ _ => de_neg (de_var (pv 1))) (by decide) (fun _ => rfl) rfl)) (dra_nil) rfl) (by decide) rfl rfl rfl)) (dss_nil))
def N_dot : List Str := ["one", "other", "left", "right"]
theorem sc_dot : FnScope N_dot ["one", "other"] (defScope (top 18)) := ⟨rfl, rfl, rfl, by decide +kernel, rfl, by decide +kernel, by decide +kernel⟩
def S_dot : SemS := sSeq (sRet (dBi bSum (dCons (dLc [2, 3] (dZip (dCons (dV 0) (dCons (dV 1) (dNil)))) (tgTup 2 (tgsCons (tgName 2) (tgsCons (tgName 3) (tgsNil)))) (dTrue) (dBin D.mul (dV 2) (dV 3))) (dNil)))) (sNext)
def F_dot : Fn := runB 4 (S_dot)
theorem ok_dot (B : Bn) : B.Ok ("dot", none) 1 2 (F_dot) := by
  obtain ⟨fd, F⟩ := B.say.def_ (d := dd_dot) 11 rfl
  exact Bun.ok (k := 0) (N := N_dot) (ps := ["one", "other"]) (S := S_dot) F sc_dot (fun _ _ _ _ _ _ us hl => match us, hl with | [_, _], _ => rfl) fun da me cdv A outer s H E i => (show DSs (B.G da me) (B.X N_dot dd_dot.qual dd_dot.scope (He.fAd B.K ("dot", none)) cdv A outer s H E) (defBody (top 18)) (S_dot) from dss_cons (ds_ret (de_callB (cr_sum rfl) bSum_ok rfl (Bun.free 57 rfl) (by decide +kernel) (dra_cons (DE.toR (de_lc rfl sc_dot.nd (di_zip rfl rfl (Bun.free 58 rfl) (da_cons (de_var (pv 0)) (da_cons (de_var (pv 1)) (da_nil) rfl) rfl) (fun h => RZ.pi_zipA rfl (Bun.free 58 rfl) h)) (blkOk_by (own := [("left", 2), ("right", 3)]) rfl) (fun _ _ _ _ _ => dg_tup rfl rfl (dgs_cons (dg_name (pg_name sc_dot.nd rfl (by first | exact Or.inl rfl | exact Or.inr rfl) (by first | exact .inl rfl | exact .inr rfl))) (dgs_cons (dg_name (pg_name sc_dot.nd rfl (by first | exact Or.inl rfl | exact Or.inr rfl) (by first | exact .inl rfl | exact .inr rfl))) (dgs_nil) rfl) rfl) rfl rfl) (fun _ _ _ _ _ => dts_nil) (fun _ _ _ _ _ => de_op op_mulX rd_mul (DE.toR (de_var (pv 2))) (DE.toR (de_var (pv 3)))) (by decide) (fun _ => rfl) rfl)) (dra_nil) rfl) (by decide) rfl rfl rfl)) (dss_nil))
def N_cross : List Str := ["one", "other"]
theorem sc_cross : FnScope N_cross ["one", "other"] (defScope (top 19)) := ⟨rfl, rfl, rfl, by decide +kernel, rfl, by decide +kernel, by decide +kernel⟩
def S_cross : SemS := sSeq (sRet (dTup (dCons (dBin D.sub (dBin D.mul (dBin D.ix (dV 0) (dC (.int 1))) (dBin D.ix (dV 1) (dC (.int 2)))) (dBin D.mul (dBin D.ix (dV 0) (dC (.int 2))) (dBin D.ix (dV 1) (dC (.int 1))))) (dCons (dBin D.sub (dBin D.mul (dBin D.ix (dV 0) (dC (.int 2))) (dBin D.ix (dV 1) (dC (.int 0)))) (dBin D.mul (dBin D.ix (dV 0) (dC (.int 0))) (dBin D.ix (dV 1) (dC (.int 2))))) (dCons (dBin D.sub (dBin D.mul (dBin D.ix (dV 0) (dC (.int 0))) (dBin D.ix (dV 1) (dC (.int 1)))) (dBin D.mul (dBin D.ix (dV 0) (dC (.int 1))) (dBin D.ix (dV 1) (dC (.int 0))))) (dNil)))))) (sNext)
def F_cross : Fn := runB 2 (S_cross)
theorem ok_cross (B : Bn) : B.Ok ("cross", none) 1 2 (F_cross) := by
  obtain ⟨fd, F⟩ := B.say.def_ (d := dd_cross) 12 rfl
  exact Bun.ok (k := 0) (N := N_cross) (ps := ["one", "other"]) (S := S_cross) F sc_cross (fun _ _ _ _ _ _ us hl => match us, hl with | [_, _], _ => rfl) fun da me cdv A outer s H E i => (show DSs (B.G da me) (B.X N_cross dd_cross.qual dd_cross.scope (He.fAd B.K ("cross", none)) cdv A outer s H E) (defBody (top 19)) (S_cross) from dss_cons (ds_ret (de_tup (da_cons (de_op op_sub rd_sub (DE.toR (de_op op_mulX rd_mul (DE.toR (de_ix rfl (DE.toR (de_var (pv 0))) (DE.toR (de_const pe_int (fun _ => Rep.int _))) (fun _ _ => rfl))) (DE.toR (de_ix rfl (DE.toR (de_var (pv 1))) (DE.toR (de_const pe_int (fun _ => Rep.int _))) (fun _ _ => rfl))))) (DE.toR (de_op op_mulX rd_mul (DE.toR (de_ix rfl (DE.toR (de_var (pv 0))) (DE.toR (de_const pe_int (fun _ => Rep.int _))) (fun _ _ => rfl))) (DE.toR (de_ix rfl (DE.toR (de_var (pv 1))) (DE.toR (de_const pe_int (fun _ => Rep.int _))) (fun _ _ => rfl)))))) (da_cons (de_op op_sub rd_sub (DE.toR (de_op op_mulX rd_mul (DE.toR (de_ix rfl (DE.toR (de_var (pv 0))) (DE.toR (de_const pe_int (fun _ => Rep.int _))) (fun _ _ => rfl))) (DE.toR (de_ix rfl (DE.toR (de_var (pv 1))) (DE.toR (de_const pe_int (fun _ => Rep.int _))) (fun _ _ => rfl))))) (DE.toR (de_op op_mulX rd_mul (DE.toR (de_ix rfl (DE.toR (de_var (pv 0))) (DE.toR (de_const pe_int (fun _ => Rep.int _))) (fun _ _ => rfl))) (DE.toR (de_ix rfl (DE.toR (de_var (pv 1))) (DE.toR (de_const pe_int (fun _ => Rep.int _))) (fun _ _ => rfl)))))) (da_cons (de_op op_sub rd_sub (DE.toR (de_op op_mulX rd_mul (DE.toR (de_ix rfl (DE.toR (de_var (pv 0))) (DE.toR (de_const pe_int (fun _ => Rep.int _))) (fun _ _ => rfl))) (DE.toR (de_ix rfl (DE.toR (de_var (pv 1))) (DE.toR (de_const pe_int (fun _ => Rep.int _))) (fun _ _ => rfl))))) (DE.toR (de_op op_mulX rd_mul (DE.toR (de_ix rfl (DE.toR (de_var (pv 0))) (DE.toR (de_const pe_int (fun _ => Rep.int _))) (fun _ _ => rfl))) (DE.toR (de_ix rfl (DE.toR (de_var (pv 1))) (DE.toR (de_const pe_int (fun _ => Rep.int _))) (fun _ _ => rfl)))))) (da_nil) rfl) rfl) rfl))) (dss_nil))
def N_det : List Str := ["one", "other", "third"]
theorem sc_det : FnScope N_det ["one", "other", "third"] (defScope (top 20)) := ⟨rfl, rfl, rfl, by decide +kernel, rfl, by decide +kernel, by decide +kernel⟩
def S_det : SemS := sSeq (sRet (dCall 2 F_dot (dCons (dCall 2 F_cross (dCons (dV 0) (dCons (dV 1) (dNil)))) (dCons (dV 2) (dNil))))) (sNext)
def F_det : Fn := runB 3 (S_det)
theorem ok_det (B : Bn) : B.Ok ("det", none) 2 3 (F_det) := by
  obtain ⟨fd, F⟩ := B.say.def_ (d := dd_det) 13 rfl
  exact Bun.ok (k := 1) (N := N_det) (ps := ["one", "other", "third"]) (S := S_det) F sc_det (fun _ _ _ _ _ _ us hl => match us, hl with | [_, _, _], _ => rfl) fun da me cdv A outer s H E i => (show DSs (B.G da me) (B.X N_det dd_det.qual dd_det.scope (He.fAd B.K ("det", none)) cdv A outer s H E) (defBody (top 20)) (S_det) from dss_cons (ds_ret (de_call (Bun.call (ok_dot B) i (by decide) (Bun.glo 11 rfl)) rfl (da_cons (de_call (Bun.call (ok_cross B) i (by decide) (Bun.glo 12 rfl)) rfl (da_cons (de_var (pv 0)) (da_cons (de_var (pv 1)) (da_nil) rfl) rfl) rfl rfl rfl) (da_cons (de_var (pv 2)) (da_nil) rfl) rfl) rfl rfl rfl)) (dss_nil))
def N_plus : List Str := ["one", "other", "left", "right"]
theorem sc_plus : FnScope N_plus ["one", "other"] (defScope (top 21)) := ⟨rfl, rfl, rfl, by decide +kernel, rfl, by decide +kernel, by decide +kernel⟩
def S_plus : SemS := sSeq (sRet (dBi bTup (dCons (dLc [2, 3] (dZip (dCons (dV 0) (dCons (dV 1) (dNil)))) (tgTup 2 (tgsCons (tgName 2) (tgsCons (tgName 3) (tgsNil)))) (dTrue) (dBin D.add (dV 2) (dV 3))) (dNil)))) (sNext)
def F_plus : Fn := runB 4 (S_plus)
theorem ok_plus (B : Bn) : B.Ok ("plus", none) 1 2 (F_plus) := by
  obtain ⟨fd, F⟩ := B.say.def_ (d := dd_plus) 14 rfl
  exact Bun.ok (k := 0) (N := N_plus) (ps := ["one", "other"]) (S := S_plus) F sc_plus (fun _ _ _ _ _ _ us hl => match us, hl with | [_, _], _ => rfl) fun da me cdv A outer s H E i => (show DSs (B.G da me) (B.X N_plus dd_plus.qual dd_plus.scope (He.fAd B.K ("plus", none)) cdv A outer s H E) (defBody (top 21)) (S_plus) from dss_cons (ds_ret (de_callT call_tuple_of bTup_ok rfl (Bun.free 61 rfl) (by decide +kernel) (dra_cons (DE.toR (de_lc rfl sc_plus.nd (di_zip rfl rfl (Bun.free 58 rfl) (da_cons (de_var (pv 0)) (da_cons (de_var (pv 1)) (da_nil) rfl) rfl) (fun h => RZ.pi_zipA rfl (Bun.free 58 rfl) h)) (blkOk_by (own := [("left", 2), ("right", 3)]) rfl) (fun _ _ _ _ _ => dg_tup rfl rfl (dgs_cons (dg_name (pg_name sc_plus.nd rfl (by first | exact Or.inl rfl | exact Or.inr rfl) (by first | exact .inl rfl | exact .inr rfl))) (dgs_cons (dg_name (pg_name sc_plus.nd rfl (by first | exact Or.inl rfl | exact Or.inr rfl) (by first | exact .inl rfl | exact .inr rfl))) (dgs_nil) rfl) rfl) rfl rfl) (fun _ _ _ _ _ => dts_nil) (fun _ _ _ _ _ => de_op op_addD rd_add (DE.toR (de_var (pv 2))) (DE.toR (de_var (pv 3)))) (by decide) (fun _ => rfl) rfl)) (dra_nil) rfl) (by decide) rfl rfl rfl)) (dss_nil))
def N_times : List Str := ["factor", "triple", "one"]
theorem sc_times : FnScope N_times ["factor", "triple"] (defScope (top 22)) := ⟨rfl, rfl, rfl, by decide +kernel, rfl, by decide +kernel, by decide +kernel⟩
def S_times : SemS := sSeq (sRet (dBi bTup (dCons (dLc [2] (dItems (dV 1)) (tgName 2) (dTrue) (dBin D.mul (dV 0) (dV 2))) (dNil)))) (sNext)
def F_times : Fn := runB 3 (S_times)
theorem ok_times (B : Bn) : B.Ok ("times", none) 1 2 (F_times) := by
  obtain ⟨fd, F⟩ := B.say.def_ (d := dd_times) 15 rfl
  exact Bun.ok (k := 0) (N := N_times) (ps := ["factor", "triple"]) (S := S_times) F sc_times (fun _ _ _ _ _ _ us hl => match us, hl with | [_, _], _ => rfl) fun da me cdv A outer s H E i => (show DSs (B.G da me) (B.X N_times dd_times.qual dd_times.scope (He.fAd B.K ("times", none)) cdv A outer s H E) (defBody (top 22)) (S_times) from dss_cons (ds_ret (de_callT call_tuple_of bTup_ok rfl (Bun.free 61 rfl) (by decide +kernel) (dra_cons (DE.toR (de_lc rfl sc_times.nd (di_seq rfl (de_var (pv 1))) (blkOk_by (own := [("one", 2)]) rfl) (fun _ _ _ _ _ => dg_name (pg_name sc_times.nd rfl (by first | exact Or.inl rfl | exact Or.inr rfl) (by first | exact .inl rfl | exact .inr rfl))) (fun _ _ _ _ _ => dts_nil) (fun _ _ _ _ _ => de_op op_mulX rd_mul (DE.toR (de_var (pv 0))) (DE.toR (de_var (pv 2)))) (by decide) (fun _ => rfl) rfl)) (dra_nil) rfl) (by decide) rfl rfl rfl)) (dss_nil))
def N_is_on_line : List Str := ["one", "other"]
theorem sc_is_on_line : FnScope N_is_on_line ["one", "other"] (defScope (top 23)) := ⟨rfl, rfl, rfl, by decide +kernel, rfl, by decide +kernel, by decide +kernel⟩
def S_is_on_line : SemS := sSeq (sRet (dEq eqT false (dCall 2 F_cross (dCons (dV 0) (dCons (dV 1) (dNil)))) (dTup (dCons (dC (.int 0)) (dCons (dC (.int 0)) (dCons (dC (.int 0)) (dNil))))))) (sNext)
def F_is_on_line : Fn := runB 2 (S_is_on_line)
theorem ok_is_on_line (B : Bn) : B.Ok ("is_on_line", none) 3 2 (F_is_on_line) := by
  obtain ⟨fd, F⟩ := B.say.def_ (d := dd_is_on_line) 16 rfl
  exact Bun.ok (k := 2) (N := N_is_on_line) (ps := ["one", "other"]) (S := S_is_on_line) F sc_is_on_line (fun _ _ _ _ _ _ us hl => match us, hl with | [_, _], _ => rfl) fun da me cdv A outer s H E i => (show DSs (B.G da me) (B.X N_is_on_line dd_is_on_line.qual dd_is_on_line.scope (He.fAd B.K ("is_on_line", none)) cdv A outer s H E) (defBody (top 23)) (S_is_on_line) from dss_cons (ds_ret (de_eq rfl Bun.kit (Bun.eqOk (eqRow B (by decide)) i) i.room.units (DE.toR (de_call (Bun.call (ok_cross B) i (by decide) (Bun.glo 12 rfl)) rfl (da_cons (de_var (pv 0)) (da_cons (de_var (pv 1)) (da_nil) rfl) rfl) rfl rfl rfl)) (de_tup (da_cons (de_const pe_int (fun _ => Rep.int _)) (da_cons (de_const pe_int (fun _ => Rep.int _)) (da_cons (de_const pe_int (fun _ => Rep.int _)) (da_nil) rfl) rfl) rfl)) rfl)) (dss_nil))
def N_is_between : List Str := ["one", "middle", "other", "normal"]
theorem sc_is_between : FnScope N_is_between ["one", "middle", "other"] (defScope (top 24)) := ⟨rfl, rfl, rfl, by decide +kernel, rfl, by decide +kernel, by decide +kernel⟩
def S_is_between : SemS := sSeq (sAsg (dCall 2 F_cross (dCons (dV 0) (dCons (dV 2) (dNil)))) (tgName 3)) (sSeq (sIf (dOrB (dEqB eqT false (dV 3) (dTup (dCons (dC (.int 0)) (dCons (dC (.int 0)) (dCons (dC (.int 0)) (dNil)))))) (dEqB eqT true (dCall 2 F_dot (dCons (dV 3) (dCons (dV 1) (dNil)))) (dC (.int 0)))) (sSeq (sRet (dC (.bl false))) (sNext)) (sNext)) (sSeq (sRet (dAndV (dBin (fun x y => (cGtA x y).map D.bl) (dCall 2 F_dot (dCons (dCall 2 F_cross (dCons (dV 0) (dCons (dV 1) (dNil)))) (dCons (dV 3) (dNil)))) (dC (.int 0))) (dBin (fun x y => (cGtA x y).map D.bl) (dCall 2 F_dot (dCons (dCall 2 F_cross (dCons (dV 1) (dCons (dV 2) (dNil)))) (dCons (dV 3) (dNil)))) (dC (.int 0))))) (sNext)))
def F_is_between : Fn := runB 4 (S_is_between)
theorem ok_is_between (B : Bn) : B.Ok ("is_between", none) 3 3 (F_is_between) := by
  obtain ⟨fd, F⟩ := B.say.def_ (d := dd_is_between) 17 rfl
  exact Bun.ok (k := 2) (N := N_is_between) (ps := ["one", "middle", "other"]) (S := S_is_between) F sc_is_between (fun _ _ _ _ _ _ us hl => match us, hl with | [_, _, _], _ => rfl) fun da me cdv A outer s H E i => (show DSs (B.G da me) (B.X N_is_between dd_is_between.qual dd_is_between.scope (He.fAd B.K ("is_between", none)) cdv A outer s H E) (defBody (top 24)) (S_is_between) from dss_cons (ds_asg (de_call (Bun.call (ok_cross B) i (by decide) (Bun.glo 12 rfl)) rfl (da_cons (de_var (pv 0)) (da_cons (de_var (pv 2)) (da_nil) rfl) rfl) rfl rfl rfl) (dg_name (pg_name sc_is_between.nd rfl (by first | exact Or.inl rfl | exact Or.inr rfl) (by first | exact .inl rfl | exact .inr rfl))) rfl rfl rfl) (dss_cons (ds_if (PW.pt (dw_or (dt_eq rfl Bun.kit (Bun.eqOk (eqRow B (by decide)) i) i.room.units (DE.toR (de_var (pv 3))) (de_tup (da_cons (de_const pe_int (fun _ => Rep.int _)) (da_cons (de_const pe_int (fun _ => Rep.int _)) (da_cons (de_const pe_int (fun _ => Rep.int _)) (da_nil) rfl) rfl) rfl)) rfl) (dw_or1 (dt_ne rfl Bun.kit (Bun.eqOk (eqRow B (by decide)) i) i.room.units (DE.toR (de_call (Bun.call (ok_dot B) i (by decide) (Bun.glo 11 rfl)) rfl (da_cons (de_var (pv 3)) (da_cons (de_var (pv 1)) (da_nil) rfl) rfl) rfl rfl rfl)) (de_const pe_int (fun _ => Rep.int _)) rfl)))) (dss_cons (ds_ret (de_const pe_bl (fun _ => Rep.bl _))) (dss_nil)) (dss_nil)) (dss_cons (ds_ret (de_and rfl (dc_val (op_gtA i.room.units0) rd_gtA (DE.toR (de_call (Bun.call (ok_dot B) i (by decide) (Bun.glo 11 rfl)) rfl (da_cons (de_call (Bun.call (ok_cross B) i (by decide) (Bun.glo 12 rfl)) rfl (da_cons (de_var (pv 0)) (da_cons (de_var (pv 1)) (da_nil) rfl) rfl) rfl rfl rfl) (da_cons (de_var (pv 3)) (da_nil) rfl) rfl) rfl rfl rfl)) (DE.toR (de_const pe_int (fun _ => Rep.int _))) rfl) (de_one (dc_val (op_gtA i.room.units0) rd_gtA (DE.toR (de_call (Bun.call (ok_dot B) i (by decide) (Bun.glo 11 rfl)) rfl (da_cons (de_call (Bun.call (ok_cross B) i (by decide) (Bun.glo 12 rfl)) rfl (da_cons (de_var (pv 1)) (da_cons (de_var (pv 2)) (da_nil) rfl) rfl) rfl rfl rfl) (da_cons (de_var (pv 3)) (da_nil) rfl) rfl) rfl rfl rfl)) (DE.toR (de_const pe_int (fun _ => Rep.int _))) rfl)))) (dss_nil))))
def N_Way___init__ : List Str := ["self", "start", "step"]
theorem sc_Way___init__ : FnScope N_Way___init__ ["self", "start", "step"] (defScope (inClass (top 27) 0)) := ⟨rfl, rfl, rfl, by decide +kernel, rfl, by decide +kernel, by decide +kernel⟩
def S_Way___init__ : SemS := sSeq (sMe 0 "start" (dIf (dTru (dCall 1 F_is_row (dCons (dV 1) (dNil)))) (dBi bTup (dCons (dV 1) (dNil))) (dV 1))) (sSeq (sMe 0 "step" (dIf (dTru (dCall 1 F_is_row (dCons (dV 2) (dNil)))) (dBi bTup (dCons (dV 2) (dNil))) (dV 2))) (sNext))
def FI_Way : FnI := runI 3 .Way S_Way___init__
theorem ok_Way___init__ (B : Bn) : B.OkI .Way 2 2 FI_Way := by
  obtain ⟨fd, F⟩ := B.say.def_ (d := dd_Way___init__) 18 rfl
  exact Bun.okI (c := .Way) (k := 1) (N := N_Way___init__) (ps := ["self", "start", "step"]) (S := S_Way___init__) F sc_Way___init__ rfl (fun _ _ _ _ _ _ us hl => match us, hl with | [_, _, _], _ => rfl) fun da me cdv A outer s H E i => (show DSs (B.G da me) (B.X N_Way___init__ dd_Way___init__.qual dd_Way___init__.scope (He.fAd B.K ("Way", some "__init__")) cdv A outer s H E) (defBody (inClass (top 27) 0)) S_Way___init__ from dss_cons (ds_me rfl (Bun.kit.cls) (pv 0) (de_if (dt_tru rfl (DE.toR (de_call (Bun.call (ok_is_row B) i (by decide) (Bun.glo 4 rfl)) rfl (da_cons (de_var (pv 1)) (da_nil) rfl) rfl rfl rfl)) (fun _ => rfl)) (de_callT call_tuple_of bTup_ok rfl (Bun.free 61 rfl) (by decide +kernel) (dra_cons (DE.toR (de_var (pv 1))) (dra_nil) rfl) (by decide) rfl rfl rfl) (de_var (pv 1))) rfl) (dss_cons (ds_me rfl (Bun.kit.cls) (pv 0) (de_if (dt_tru rfl (DE.toR (de_call (Bun.call (ok_is_row B) i (by decide) (Bun.glo 4 rfl)) rfl (da_cons (de_var (pv 2)) (da_nil) rfl) rfl rfl rfl)) (fun _ => rfl)) (de_callT call_tuple_of bTup_ok rfl (Bun.free 61 rfl) (by decide +kernel) (dra_cons (DE.toR (de_var (pv 2))) (dra_nil) rfl) (by decide) rfl rfl rfl) (de_var (pv 2))) rfl) (dss_nil)))
def N_Way___bool__ : List Str := ["self"]
theorem sc_Way___bool__ : FnScope N_Way___bool__ ["self"] (defScope (inClass (top 27) 1)) := ⟨rfl, rfl, rfl, by decide +kernel, rfl, by decide +kernel, by decide +kernel⟩
def S_Way___bool__ : SemS := sSeq (sRet (dC (.bl true))) (sNext)
def F_Way___bool__ : Fn := runB 1 (S_Way___bool__)
theorem ok_Way___bool__ (B : Bn) : B.Ok ("Way", some "__bool__") 1 1 (F_Way___bool__) := by
  obtain ⟨fd, F⟩ := B.say.def_ (d := dd_Way___bool__) 19 rfl
  exact Bun.ok (k := 0) (N := N_Way___bool__) (ps := ["self"]) (S := S_Way___bool__) F sc_Way___bool__ (fun _ _ _ _ _ _ us hl => match us, hl with | [_], _ => rfl) fun da me cdv A outer s H E i => (show DSs (B.G da me) (B.X N_Way___bool__ dd_Way___bool__.qual dd_Way___bool__.scope (He.fAd B.K ("Way", some "__bool__")) cdv A outer s H E) (defBody (inClass (top 27) 1)) (S_Way___bool__) from dss_cons (ds_ret (de_const pe_bl (fun _ => Rep.bl _))) (dss_nil))
def N_Way_shows : List Str := ["self", "sightings"]
theorem sc_Way_shows : FnScope N_Way_shows ["self", "sightings"] (defScope (inClass (top 27) 3)) := ⟨rfl, rfl, rfl, by decide +kernel, rfl, by decide +kernel, by decide +kernel⟩
def S_Way_shows : SemS := sSeq (sDrop (dCall 1 F__wall (dCons (dC (.int 0)) (dNil)))) (sNext)
def F_Way_shows : Fn := runB 2 (S_Way_shows)
theorem ok_Way_shows (B : Bn) : B.Ok ("Way", some "shows") 2 2 (F_Way_shows) := by
  obtain ⟨fd, F⟩ := B.say.def_ (d := dd_Way_shows) 21 rfl
  exact Bun.ok (k := 1) (N := N_Way_shows) (ps := ["self", "sightings"]) (S := S_Way_shows) F sc_Way_shows (fun _ _ _ _ _ _ us hl => match us, hl with | [_, _], _ => rfl) fun da me cdv A outer s H E i => (show DSs (B.G da me) (B.X N_Way_shows dd_Way_shows.qual dd_Way_shows.scope (He.fAd B.K ("Way", some "shows")) cdv A outer s H E) (defBody (inClass (top 27) 3)) (S_Way_shows) from dss_cons (ds_expr (de_call (Bun.call (ok__wall B) i (by decide) (Bun.glo 0 rfl)) rfl (da_cons (de_const pe_int (fun _ => Rep.int _)) (da_nil) rfl) rfl rfl rfl) rfl) (dss_nil))
def N_Ways___init__ : List Str := ["self", "one", "other"]
theorem sc_Ways___init__ : FnScope N_Ways___init__ ["self", "one", "other"] (defScope (inClass (top 28) 0)) := ⟨rfl, rfl, rfl, by decide +kernel, rfl, by decide +kernel, by decide +kernel⟩
def S_Ways___init__ : SemS := sSeq (sMe 0 "one" (dIf (dTru (dCall 1 F_is_row (dCons (dV 1) (dNil)))) (dBi bTup (dCons (dV 1) (dNil))) (dV 1))) (sSeq (sMe 0 "other" (dIf (dTru (dCall 1 F_is_row (dCons (dV 2) (dNil)))) (dBi bTup (dCons (dV 2) (dNil))) (dV 2))) (sNext))
def FI_Ways : FnI := runI 3 .Ways S_Ways___init__
theorem ok_Ways___init__ (B : Bn) : B.OkI .Ways 2 2 FI_Ways := by
  obtain ⟨fd, F⟩ := B.say.def_ (d := dd_Ways___init__) 22 rfl
  exact Bun.okI (c := .Ways) (k := 1) (N := N_Ways___init__) (ps := ["self", "one", "other"]) (S := S_Ways___init__) F sc_Ways___init__ rfl (fun _ _ _ _ _ _ us hl => match us, hl with | [_, _, _], _ => rfl) fun da me cdv A outer s H E i => (show DSs (B.G da me) (B.X N_Ways___init__ dd_Ways___init__.qual dd_Ways___init__.scope (He.fAd B.K ("Ways", some "__init__")) cdv A outer s H E) (defBody (inClass (top 28) 0)) S_Ways___init__ from dss_cons (ds_me rfl (Bun.kit.cls) (pv 0) (de_if (dt_tru rfl (DE.toR (de_call (Bun.call (ok_is_row B) i (by decide) (Bun.glo 4 rfl)) rfl (da_cons (de_var (pv 1)) (da_nil) rfl) rfl rfl rfl)) (fun _ => rfl)) (de_callT call_tuple_of bTup_ok rfl (Bun.free 61 rfl) (by decide +kernel) (dra_cons (DE.toR (de_var (pv 1))) (dra_nil) rfl) (by decide) rfl rfl rfl) (de_var (pv 1))) rfl) (dss_cons (ds_me rfl (Bun.kit.cls) (pv 0) (de_if (dt_tru rfl (DE.toR (de_call (Bun.call (ok_is_row B) i (by decide) (Bun.glo 4 rfl)) rfl (da_cons (de_var (pv 2)) (da_nil) rfl) rfl rfl rfl)) (fun _ => rfl)) (de_callT call_tuple_of bTup_ok rfl (Bun.free 61 rfl) (by decide +kernel) (dra_cons (DE.toR (de_var (pv 2))) (dra_nil) rfl) (by decide) rfl rfl rfl) (de_var (pv 2))) rfl) (dss_nil)))
def N_Ways___bool__ : List Str := ["self"]
theorem sc_Ways___bool__ : FnScope N_Ways___bool__ ["self"] (defScope (inClass (top 28) 1)) := ⟨rfl, rfl, rfl, by decide +kernel, rfl, by decide +kernel, by decide +kernel⟩
def S_Ways___bool__ : SemS := sSeq (sRet (dC (.bl false))) (sNext)
def F_Ways___bool__ : Fn := runB 1 (S_Ways___bool__)
theorem ok_Ways___bool__ (B : Bn) : B.Ok ("Ways", some "__bool__") 1 1 (F_Ways___bool__) := by
  obtain ⟨fd, F⟩ := B.say.def_ (d := dd_Ways___bool__) 23 rfl
  exact Bun.ok (k := 0) (N := N_Ways___bool__) (ps := ["self"]) (S := S_Ways___bool__) F sc_Ways___bool__ (fun _ _ _ _ _ _ us hl => match us, hl with | [_], _ => rfl) fun da me cdv A outer s H E i => (show DSs (B.G da me) (B.X N_Ways___bool__ dd_Ways___bool__.qual dd_Ways___bool__.scope (He.fAd B.K ("Ways", some "__bool__")) cdv A outer s H E) (defBody (inClass (top 28) 1)) (S_Ways___bool__) from dss_cons (ds_ret (de_const pe_bl (fun _ => Rep.bl _))) (dss_nil))
def N_Ways_shows : List Str := ["self", "sightings"]
theorem sc_Ways_shows : FnScope N_Ways_shows ["self", "sightings"] (defScope (inClass (top 28) 3)) := ⟨rfl, rfl, rfl, by decide +kernel, rfl, by decide +kernel, by decide +kernel⟩
def S_Ways_shows : SemS := sSeq (sDrop (dCall 1 F__wall (dCons (dC (.int 1)) (dNil)))) (sNext)
def F_Ways_shows : Fn := runB 2 (S_Ways_shows)
theorem ok_Ways_shows (B : Bn) : B.Ok ("Ways", some "shows") 2 2 (F_Ways_shows) := by
  obtain ⟨fd, F⟩ := B.say.def_ (d := dd_Ways_shows) 25 rfl
  exact Bun.ok (k := 1) (N := N_Ways_shows) (ps := ["self", "sightings"]) (S := S_Ways_shows) F sc_Ways_shows (fun _ _ _ _ _ _ us hl => match us, hl with | [_, _], _ => rfl) fun da me cdv A outer s H E i => (show DSs (B.G da me) (B.X N_Ways_shows dd_Ways_shows.qual dd_Ways_shows.scope (He.fAd B.K ("Ways", some "shows")) cdv A outer s H E) (defBody (inClass (top 28) 3)) (S_Ways_shows) from dss_cons (ds_expr (de_call (Bun.call (ok__wall B) i (by decide) (Bun.glo 0 rfl)) rfl (da_cons (de_const pe_int (fun _ => Rep.int _)) (da_nil) rfl) rfl rfl rfl) rfl) (dss_nil))
def N_NoWay___init__ : List Str := ["self", "places"]
theorem sc_NoWay___init__ : FnScope N_NoWay___init__ ["self", "places"] (defScope (inClass (top 29) 0)) := ⟨rfl, rfl, rfl, by decide +kernel, rfl, by decide +kernel, by decide +kernel⟩
def S_NoWay___init__ : SemS := sSeq (sMe 0 "places" (dIf (dTru (dCall 1 F_is_row (dCons (dV 1) (dNil)))) (dBi bTup (dCons (dV 1) (dNil))) (dV 1))) (sNext)
def FI_NoWay : FnI := runI 2 .NoWay S_NoWay___init__
theorem ok_NoWay___init__ (B : Bn) : B.OkI .NoWay 2 1 FI_NoWay := by
  obtain ⟨fd, F⟩ := B.say.def_ (d := dd_NoWay___init__) 26 rfl
  exact Bun.okI (c := .NoWay) (k := 1) (N := N_NoWay___init__) (ps := ["self", "places"]) (S := S_NoWay___init__) F sc_NoWay___init__ rfl (fun _ _ _ _ _ _ us hl => match us, hl with | [_, _], _ => rfl) fun da me cdv A outer s H E i => (show DSs (B.G da me) (B.X N_NoWay___init__ dd_NoWay___init__.qual dd_NoWay___init__.scope (He.fAd B.K ("NoWay", some "__init__")) cdv A outer s H E) (defBody (inClass (top 29) 0)) S_NoWay___init__ from dss_cons (ds_me rfl (Bun.kit.cls) (pv 0) (de_if (dt_tru rfl (DE.toR (de_call (Bun.call (ok_is_row B) i (by decide) (Bun.glo 4 rfl)) rfl (da_cons (de_var (pv 1)) (da_nil) rfl) rfl rfl rfl)) (fun _ => rfl)) (de_callT call_tuple_of bTup_ok rfl (Bun.free 61 rfl) (by decide +kernel) (dra_cons (DE.toR (de_var (pv 1))) (dra_nil) rfl) (by decide) rfl rfl rfl) (de_var (pv 1))) rfl) (dss_nil))
def N_NoWay___bool__ : List Str := ["self"]
theorem sc_NoWay___bool__ : FnScope N_NoWay___bool__ ["self"] (defScope (inClass (top 29) 1)) := ⟨rfl, rfl, rfl, by decide +kernel, rfl, by decide +kernel, by decide +kernel⟩
def S_NoWay___bool__ : SemS := sSeq (sRet (dC (.bl false))) (sNext)
def F_NoWay___bool__ : Fn := runB 1 (S_NoWay___bool__)
theorem ok_NoWay___bool__ (B : Bn) : B.Ok ("NoWay", some "__bool__") 1 1 (F_NoWay___bool__) := by
  obtain ⟨fd, F⟩ := B.say.def_ (d := dd_NoWay___bool__) 27 rfl
  exact Bun.ok (k := 0) (N := N_NoWay___bool__) (ps := ["self"]) (S := S_NoWay___bool__) F sc_NoWay___bool__ (fun _ _ _ _ _ _ us hl => match us, hl with | [_], _ => rfl) fun da me cdv A outer s H E i => (show DSs (B.G da me) (B.X N_NoWay___bool__ dd_NoWay___bool__.qual dd_NoWay___bool__.scope (He.fAd B.K ("NoWay", some "__bool__")) cdv A outer s H E) (defBody (inClass (top 29) 1)) (S_NoWay___bool__) from dss_cons (ds_ret (de_const pe_bl (fun _ => Rep.bl _))) (dss_nil))
def N_NoWay_shows : List Str := ["self", "sightings"]
theorem sc_NoWay_shows : FnScope N_NoWay_shows ["self", "sightings"] (defScope (inClass (top 29) 3)) := ⟨rfl, rfl, rfl, by decide +kernel, rfl, by decide +kernel, by decide +kernel⟩
def S_NoWay_shows : SemS := sSeq (sDrop (dCall 1 F__wall (dCons (dC (.int 2)) (dNil)))) (sNext)
def F_NoWay_shows : Fn := runB 2 (S_NoWay_shows)
theorem ok_NoWay_shows (B : Bn) : B.Ok ("NoWay", some "shows") 2 2 (F_NoWay_shows) := by
  obtain ⟨fd, F⟩ := B.say.def_ (d := dd_NoWay_shows) 29 rfl
  exact Bun.ok (k := 1) (N := N_NoWay_shows) (ps := ["self", "sightings"]) (S := S_NoWay_shows) F sc_NoWay_shows (fun _ _ _ _ _ _ us hl => match us, hl with | [_, _], _ => rfl) fun da me cdv A outer s H E i => (show DSs (B.G da me) (B.X N_NoWay_shows dd_NoWay_shows.qual dd_NoWay_shows.scope (He.fAd B.K ("NoWay", some "shows")) cdv A outer s H E) (defBody (inClass (top 29) 3)) (S_NoWay_shows) from dss_cons (ds_expr (de_call (Bun.call (ok__wall B) i (by decide) (Bun.glo 0 rfl)) rfl (da_cons (de_const pe_int (fun _ => Rep.int _)) (da_nil) rfl) rfl rfl rfl) rfl) (dss_nil))
def N_check_sightings : List Str := ["sightings", "last", "place", "row"]
theorem sc_check_sightings : FnScope N_check_sightings ["sightings"] (defScope (top 30)) := ⟨rfl, rfl, rfl, by decide +kernel, rfl, by decide +kernel, by decide +kernel⟩
def S_check_sightings : SemS := sSeq (sIf (dOrB (dNotB (dTru (dCall 1 F_is_row (dCons (dV 0) (dNil))))) (dEqB eqT false (dBi bLen (dCons (dV 0) (dNil))) (dC (.int 0)))) (sFail) (sNext)) (sSeq (sAsg (dUn D.neg (dC (.int 1))) (tgName 1)) (sSeq (sFor (dEnumA (dV 0)) (tgTup 2 (tgsCons (tgName 2) (tgsCons (tgName 3) (tgsNil)))) (sSeq (sIf (dOrB (dNotB (dTru (dIsi .tuple (dV 3)))) (dOrB (dEqB eqT true (dBi bLen (dCons (dV 3) (dNil))) (dC (.int 2))) (dNotB (dTru (dCall 3 F_is_number (dCons (dBin D.ix (dV 3) (dC (.int 0))) (dCons (dBin D.add (dV 1) (dC (.int 1))) (dCons (dC (.int 99)) (dNil))))))))) (sFail) (sNext)) (sSeq (sIf (dNotB (dTru (dCall 1 F_is_direction (dCons (dBin D.ix (dV 3) (dC (.int 1))) (dNil))))) (sFail) (sNext)) (sSeq (sAsg (dBin D.ix (dV 3) (dC (.int 0))) (tgName 1)) (sNext))))) (sNext)))
def F_check_sightings : Fn := runB 4 (S_check_sightings)
theorem ok_check_sightings (B : Bn) : B.Ok ("check_sightings", none) 5 1 (F_check_sightings) := by
  obtain ⟨fd, F⟩ := B.say.def_ (d := dd_check_sightings) 30 rfl
  exact Bun.ok (k := 4) (N := N_check_sightings) (ps := ["sightings"]) (S := S_check_sightings) F sc_check_sightings (fun _ _ _ _ _ _ us hl => match us, hl with | [_], _ => rfl) fun da me cdv A outer s H E i => (show DSs (B.G da me) (B.X N_check_sightings dd_check_sightings.qual dd_check_sightings.scope (He.fAd B.K ("check_sightings", none)) cdv A outer s H E) (defBody (top 30)) (S_check_sightings) from dss_cons (ds_if (PW.pt (dw_or (dt_not (dt_tru rfl (DE.toR (de_call (Bun.call (ok_is_row B) i (by decide) (Bun.glo 4 rfl)) rfl (da_cons (de_var (pv 0)) (da_nil) rfl) rfl rfl rfl)) (fun _ => rfl))) (dw_or1 (dt_eq rfl Bun.kit (Bun.eqOk (eqRow B (by decide)) i) i.room.units (DE.toR (de_callB call_len bLen_ok rfl (Bun.free 54 rfl) (by decide +kernel) (dra_cons (DE.toR (de_var (pv 0))) (dra_nil) rfl) (by decide) rfl rfl rfl)) (de_const pe_int (fun _ => Rep.int _)) rfl)))) (dss_fail) (dss_nil)) (dss_cons (ds_asg (de_neg (de_const pe_int (fun _ => Rep.int _))) (dg_name (pg_name sc_check_sightings.nd rfl (by first | exact Or.inl rfl | exact Or.inr rfl) (by first | exact .inl rfl | exact .inr rfl))) rfl rfl rfl) (dss_cons (ds_for PassesOwn.never rfl (di_enumA rfl rfl (Bun.free 59 rfl) (de_var (pv 0)) rfl) (dg_tup rfl rfl (dgs_cons (dg_name (pg_name sc_check_sightings.nd rfl (by first | exact Or.inl rfl | exact Or.inr rfl) (by first | exact .inl rfl | exact .inr rfl))) (dgs_cons (dg_name (pg_name sc_check_sightings.nd rfl (by first | exact Or.inl rfl | exact Or.inr rfl) (by first | exact .inl rfl | exact .inr rfl))) (dgs_nil) rfl) rfl) rfl rfl) (dss_cons (ds_if (PW.pt (dw_or (dt_not (dt_tru rfl (DE.toR (de_isi rfl Bun.kit rfl (Bun.free 53 rfl) rfl (DE.toR (de_var (pv 3))) (pe_tyB "tuple" rfl (Bun.free 61 rfl) (by decide +kernel)) rfl rfl rfl)) (fun _ => rfl))) (dw_or (dt_ne rfl Bun.kit (Bun.eqOk (eqRow B (by decide)) i) i.room.units (DE.toR (de_callB call_len bLen_ok rfl (Bun.free 54 rfl) (by decide +kernel) (dra_cons (DE.toR (de_var (pv 3))) (dra_nil) rfl) (by decide) rfl rfl rfl)) (de_const pe_int (fun _ => Rep.int _)) rfl) (dw_or1 (dt_not (dt_tru rfl (DE.toR (de_call (Bun.call (ok_is_number B) i (by decide) (Bun.glo 2 rfl)) rfl (da_cons (de_ix rfl (DE.toR (de_var (pv 3))) (DE.toR (de_const pe_int (fun _ => Rep.int _))) (fun _ _ => rfl)) (da_cons (de_op op_addD rd_add (DE.toR (de_var (pv 1))) (DE.toR (de_const pe_int (fun _ => Rep.int _)))) (da_cons (de_int (He.int_ok B.hIn B.hNs (B.say.fact 94 rfl)) rfl) (da_nil) rfl) rfl) rfl) rfl rfl rfl)) (fun _ => rfl))))))) (dss_fail) (dss_nil)) (dss_cons (ds_if (dt_not (dt_tru rfl (DE.toR (de_call (Bun.call (ok_is_direction B) i (by decide) (Bun.glo 7 rfl)) rfl (da_cons (de_ix rfl (DE.toR (de_var (pv 3))) (DE.toR (de_const pe_int (fun _ => Rep.int _))) (fun _ _ => rfl)) (da_nil) rfl) rfl rfl rfl)) (fun _ => rfl))) (dss_fail) (dss_nil)) (dss_cons (ds_asg (de_ix rfl (DE.toR (de_var (pv 3))) (DE.toR (de_const pe_int (fun _ => Rep.int _))) (fun _ _ => rfl)) (dg_name (pg_name sc_check_sightings.nd rfl (by first | exact Or.inl rfl | exact Or.inr rfl) (by first | exact .inl rfl | exact .inr rfl))) rfl rfl rfl) (dss_nil)))) (fun _ => rfl)) (dss_nil))))
def N_is_way : List Str := ["way", "one", "number"]
theorem sc_is_way : FnScope N_is_way ["way"] (defScope (top 31)) := ⟨rfl, rfl, rfl, by decide +kernel, rfl, by decide +kernel, by decide +kernel⟩
def S_is_way : SemS := sSeq (sIf (dOrB (dNotB (dTru (dCall 1 F_is_row (dCons (dV 0) (dNil))))) (dEqB eqT true (dBi bLen (dCons (dV 0) (dNil))) (dC (.int 2)))) (sSeq (sRet (dC (.bl false))) (sNext)) (sNext)) (sSeq (sIf (dNotB (dTru (dBi bAll (dCons (dLc [1] (dItems (dV 0)) (tgName 1) (dTrue) (dAndV (dIsi .tuple (dV 1)) (dEq eqT false (dBi bLen (dCons (dV 1) (dNil))) (dC (.int 3))))) (dNil))))) (sSeq (sRet (dC (.bl false))) (sNext)) (sNext)) (sSeq (sRet (dBi bAll (dCons (dLc2 [1, 2] (dItems (dV 0)) (tgName 1) (dTrue) (dItems (dV 1)) [2] (tgName 2) (dTrue) (dCall 1 F_is_integer (dCons (dV 2) (dNil)))) (dNil)))) (sNext)))
def F_is_way : Fn := runB 3 (S_is_way)
theorem ok_is_way (B : Bn) : B.Ok ("is_way", none) 3 1 (F_is_way) := by
  obtain ⟨fd, F⟩ := B.say.def_ (d := dd_is_way) 31 rfl
  exact Bun.ok (k := 2) (N := N_is_way) (ps := ["way"]) (S := S_is_way) F sc_is_way (fun _ _ _ _ _ _ us hl => match us, hl with | [_], _ => rfl) fun da me cdv A outer s H E i => (show DSs (B.G da me) (B.X N_is_way dd_is_way.qual dd_is_way.scope (He.fAd B.K ("is_way", none)) cdv A outer s H E) (defBody (top 31)) (S_is_way) from dss_cons (ds_if (PW.pt (dw_or (dt_not (dt_tru rfl (DE.toR (de_call (Bun.call (ok_is_row B) i (by decide) (Bun.glo 4 rfl)) rfl (da_cons (de_var (pv 0)) (da_nil) rfl) rfl rfl rfl)) (fun _ => rfl))) (dw_or1 (dt_ne rfl Bun.kit (Bun.eqOk (eqRow B (by decide)) i) i.room.units (DE.toR (de_callB call_len bLen_ok rfl (Bun.free 54 rfl) (by decide +kernel) (dra_cons (DE.toR (de_var (pv 0))) (dra_nil) rfl) (by decide) rfl rfl rfl)) (de_const pe_int (fun _ => Rep.int _)) rfl)))) (dss_cons (ds_ret (de_const pe_bl (fun _ => Rep.bl _))) (dss_nil)) (dss_nil)) (dss_cons (ds_if (dt_not (dt_tru rfl (DE.toR (de_callB (cr_all rfl) bAll_ok rfl (Bun.free 55 rfl) (by decide +kernel) (dra_cons (DE.toR (de_lc rfl sc_is_way.nd (di_seq rfl (de_var (pv 0))) (blkOk_by (own := [("one", 1)]) rfl) (fun _ _ _ _ _ => dg_name (pg_name sc_is_way.nd rfl (by first | exact Or.inl rfl | exact Or.inr rfl) (by first | exact .inl rfl | exact .inr rfl))) (fun _ _ _ _ _ => dts_nil) (fun _ _ _ _ _ => de_and rfl (de_isi rfl Bun.kit rfl (Bun.free 53 rfl) rfl (DE.toR (de_var (pv 1))) (pe_tyB "tuple" rfl (Bun.free 61 rfl) (by decide +kernel)) rfl rfl rfl) (de_one (de_eq rfl Bun.kit (Bun.eqOk (eqRow B (by decide)) i.blk) i.blk.room.units (DE.toR (de_callB call_len bLen_ok rfl (Bun.free 54 rfl) (by decide +kernel) (dra_cons (DE.toR (de_var (pv 1))) (dra_nil) rfl) (by decide) rfl rfl rfl)) (de_const pe_int (fun _ => Rep.int _)) rfl))) (by decide) (fun _ => rfl) rfl)) (dra_nil) rfl) (by decide) rfl rfl rfl)) (fun _ => rfl))) (dss_cons (ds_ret (de_const pe_bl (fun _ => Rep.bl _))) (dss_nil)) (dss_nil)) (dss_cons (ds_ret (de_callB (cr_all rfl) bAll_ok rfl (Bun.free 55 rfl) (by decide +kernel) (dra_cons (DE.toR (de_lc2 rfl sc_is_way.nd (vs := [2]) (di_seq rfl (de_var (pv 0))) (blkOk_by (own := [("one", 1), ("number", 2)]) rfl) (by decide) (fun _ _ _ _ _ => dg_name (pg_name sc_is_way.nd rfl (by first | exact Or.inl rfl | exact Or.inr rfl) (by first | exact .inl rfl | exact .inr rfl))) (fun _ _ _ _ _ => dts_nil) (fun _ _ _ _ _ => di_seq rfl (de_var (pv 1))) (fun _ _ _ _ _ => dg_name (pg_name sc_is_way.nd rfl (by first | exact Or.inl rfl | exact Or.inr rfl) (by first | exact .inl rfl | exact .inr rfl))) (fun _ _ _ _ _ => dts_nil) (fun _ _ _ _ _ => de_call (Bun.call (ok_is_integer B) i.blk (by decide) (Bun.glo 1 rfl)) rfl (da_cons (de_var (pv 2)) (da_nil) rfl) rfl rfl rfl) (by decide) (by decide) gd_name (fun _ => rfl) (fun _ _ => rfl) rfl)) (dra_nil) rfl) (by decide) rfl rfl rfl)) (dss_nil))))
def N_least_way : List Str := ["way", "divisor", "triple", "number"]
theorem sc_least_way : FnScope N_least_way ["way"] (defScope (top 32)) := ⟨rfl, rfl, rfl, by decide +kernel, rfl, by decide +kernel, by decide +kernel⟩
def S_least_way : SemS := sSeq (sAsg (dC (.int 0)) (tgName 1)) (sSeq (sFor (dItems (dV 0)) (tgName 2) (sSeq (sFor (dItems (dV 2)) (tgName 3) (sSeq (sAsg (dCall 2 F_common (dCons (dV 1) (dCons (dV 3) (dNil)))) (tgName 1)) (sNext))) (sNext))) (sSeq (sRet (dBi bTup (dCons (dLc [2] (dItems (dV 0)) (tgName 2) (dTrue) (dBi bTup (dCons (dLc [3] (dItems (dV 2)) (tgName 3) (dTrue) (dBin D.fdiv (dV 3) (dBi bMax (dCons (dC (.int 1)) (dCons (dV 1) (dNil)))))) (dNil)))) (dNil)))) (sNext)))
def F_least_way : Fn := runB 4 (S_least_way)
theorem ok_least_way (B : Bn) : B.Ok ("least_way", none) 2 1 (F_least_way) := by
  obtain ⟨fd, F⟩ := B.say.def_ (d := dd_least_way) 32 rfl
  exact Bun.ok (k := 1) (N := N_least_way) (ps := ["way"]) (S := S_least_way) F sc_least_way (fun _ _ _ _ _ _ us hl => match us, hl with | [_], _ => rfl) fun da me cdv A outer s H E i => (show DSs (B.G da me) (B.X N_least_way dd_least_way.qual dd_least_way.scope (He.fAd B.K ("least_way", none)) cdv A outer s H E) (defBody (top 32)) (S_least_way) from dss_cons (ds_asg (de_const pe_int (fun _ => Rep.int _)) (dg_name (pg_name sc_least_way.nd rfl (by first | exact Or.inl rfl | exact Or.inr rfl) (by first | exact .inl rfl | exact .inr rfl))) rfl rfl rfl) (dss_cons (ds_for PassesOwn.never rfl (di_seq rfl (de_var (pv 0))) (dg_name (pg_name sc_least_way.nd rfl (by first | exact Or.inl rfl | exact Or.inr rfl) (by first | exact .inl rfl | exact .inr rfl))) (dss_cons (ds_for PassesOwn.never rfl (di_seq rfl (de_var (pv 2))) (dg_name (pg_name sc_least_way.nd rfl (by first | exact Or.inl rfl | exact Or.inr rfl) (by first | exact .inl rfl | exact .inr rfl))) (dss_cons (ds_asg (de_call (Bun.call (ok_common B) i (by decide) (Bun.glo 5 rfl)) rfl (da_cons (de_var (pv 1)) (da_cons (de_var (pv 3)) (da_nil) rfl) rfl) rfl rfl rfl) (dg_name (pg_name sc_least_way.nd rfl (by first | exact Or.inl rfl | exact Or.inr rfl) (by first | exact .inl rfl | exact .inr rfl))) rfl rfl rfl) (dss_nil)) (fun _ => rfl)) (dss_nil)) (fun _ => rfl)) (dss_cons (ds_ret (de_callT call_tuple_of bTup_ok rfl (Bun.free 61 rfl) (by decide +kernel) (dra_cons (DE.toR (de_lc rfl sc_least_way.nd (di_seq rfl (de_var (pv 0))) (blkOk_by (own := [("triple", 2)]) rfl) (fun _ _ _ _ _ => dg_name (pg_name sc_least_way.nd rfl (by first | exact Or.inl rfl | exact Or.inr rfl) (by first | exact .inl rfl | exact .inr rfl))) (fun _ _ _ _ _ => dts_nil) (fun _ _ _ _ _ => de_callT call_tuple_of bTup_ok rfl (Bun.free 61 rfl) (by decide +kernel) (dra_cons (DE.toR (de_lc rfl sc_least_way.nd (di_seq rfl (de_var (pv 2))) (blkOk_by (own := [("number", 3)]) rfl) (fun _ _ _ _ _ => dg_name (pg_name sc_least_way.nd rfl (by first | exact Or.inl rfl | exact Or.inr rfl) (by first | exact .inl rfl | exact .inr rfl))) (fun _ _ _ _ _ => dts_nil) (fun _ _ _ _ _ => de_op op_fdivW rd_fdiv (DE.toR (de_var (pv 3))) (DE.toR (de_callB ((cr_max rfl).or (call_max2 rfl)) bMax_ok rfl (Bun.free 65 rfl) (by decide +kernel) (dra_cons (DE.toR (de_const pe_int (fun _ => Rep.int _))) (dra_cons (DE.toR (de_var (pv 1))) (dra_nil) rfl) rfl) (by decide) rfl rfl rfl))) (by decide) (fun _ => rfl) rfl)) (dra_nil) rfl) (by decide) rfl rfl rfl) (by decide) (fun _ => rfl) rfl)) (dra_nil) rfl) (by decide) rfl rfl rfl)) (dss_nil))))
def N_check_way : List Str := ["way"]
theorem sc_check_way : FnScope N_check_way ["way"] (defScope (top 35)) := ⟨rfl, rfl, rfl, by decide +kernel, rfl, by decide +kernel, by decide +kernel⟩
def S_check_way : SemS := sSeq (sIf (dNotB (dTru (dCall 1 F_is_way (dCons (dV 0) (dNil))))) (sFail) (sNext)) (sNext)
def F_check_way : Fn := runB 1 (S_check_way)
theorem ok_check_way (B : Bn) : B.Ok ("check_way", none) 4 1 (F_check_way) := by
  obtain ⟨fd, F⟩ := B.say.def_ (d := dd_check_way) 35 rfl
  exact Bun.ok (k := 3) (N := N_check_way) (ps := ["way"]) (S := S_check_way) F sc_check_way (fun _ _ _ _ _ _ us hl => match us, hl with | [_], _ => rfl) fun da me cdv A outer s H E i => (show DSs (B.G da me) (B.X N_check_way dd_check_way.qual dd_check_way.scope (He.fAd B.K ("check_way", none)) cdv A outer s H E) (defBody (top 35)) (S_check_way) from dss_cons (ds_if (dt_not (dt_tru rfl (DE.toR (de_call (Bun.call (ok_is_way B) i (by decide) (Bun.glo 19 rfl)) rfl (da_cons (de_var (pv 0)) (da_nil) rfl) rfl rfl rfl)) (fun _ => rfl))) (dss_fail) (dss_nil)) (dss_nil))
def N_way_of_two : List Str := ["one", "other", "near", "far", "between", "step", "start"]
theorem sc_way_of_two : FnScope N_way_of_two ["one", "other", "near", "far"] (defScope (top 37)) := ⟨rfl, rfl, rfl, by decide +kernel, rfl, by decide +kernel, by decide +kernel⟩
def S_way_of_two : SemS := sSeq (sAsg (dBin D.sub (dBin D.ix (dV 1) (dC (.int 0))) (dBin D.ix (dV 0) (dC (.int 0)))) (tgName 4)) (sSeq (sAsg (dCall 2 F_plus (dCons (dCall 2 F_times (dCons (dV 3) (dCons (dBin D.ix (dV 1) (dC (.int 1))) (dNil)))) (dCons (dCall 2 F_times (dCons (dUn D.neg (dV 2)) (dCons (dBin D.ix (dV 0) (dC (.int 1))) (dNil)))) (dNil)))) (tgName 5)) (sSeq (sAsg (dCall 2 F_plus (dCons (dCall 2 F_times (dCons (dBin D.mul (dV 4) (dV 2)) (dCons (dBin D.ix (dV 0) (dC (.int 1))) (dNil)))) (dCons (dCall 2 F_times (dCons (dUn D.neg (dBin D.ix (dV 0) (dC (.int 0)))) (dCons (dV 5) (dNil)))) (dNil)))) (tgName 6)) (sSeq (sRet (dCall 1 F_least_way (dCons (dTup (dCons (dV 6) (dCons (dV 5) (dNil)))) (dNil)))) (sNext))))
def F_way_of_two : Fn := runB 7 (S_way_of_two)
theorem ok_way_of_two (B : Bn) : B.Ok ("way_of_two", none) 3 4 (F_way_of_two) := by
  obtain ⟨fd, F⟩ := B.say.def_ (d := dd_way_of_two) 37 rfl
  exact Bun.ok (k := 2) (N := N_way_of_two) (ps := ["one", "other", "near", "far"]) (S := S_way_of_two) F sc_way_of_two (fun _ _ _ _ _ _ us hl => match us, hl with | [_, _, _, _], _ => rfl) fun da me cdv A outer s H E i => (show DSs (B.G da me) (B.X N_way_of_two dd_way_of_two.qual dd_way_of_two.scope (He.fAd B.K ("way_of_two", none)) cdv A outer s H E) (defBody (top 37)) (S_way_of_two) from dss_cons (ds_asg (de_op op_sub rd_sub (DE.toR (de_ix rfl (DE.toR (de_var (pv 1))) (DE.toR (de_const pe_int (fun _ => Rep.int _))) (fun _ _ => rfl))) (DE.toR (de_ix rfl (DE.toR (de_var (pv 0))) (DE.toR (de_const pe_int (fun _ => Rep.int _))) (fun _ _ => rfl)))) (dg_name (pg_name sc_way_of_two.nd rfl (by first | exact Or.inl rfl | exact Or.inr rfl) (by first | exact .inl rfl | exact .inr rfl))) rfl rfl rfl) (dss_cons (ds_asg (de_call (Bun.call (ok_plus B) i (by decide) (Bun.glo 14 rfl)) rfl (da_cons (de_call (Bun.call (ok_times B) i (by decide) (Bun.glo 15 rfl)) rfl (da_cons (de_var (pv 3)) (da_cons (de_ix rfl (DE.toR (de_var (pv 1))) (DE.toR (de_const pe_int (fun _ => Rep.int _))) (fun _ _ => rfl)) (da_nil) rfl) rfl) rfl rfl rfl) (da_cons (de_call (Bun.call (ok_times B) i (by decide) (Bun.glo 15 rfl)) rfl (da_cons (de_neg (de_var (pv 2))) (da_cons (de_ix rfl (DE.toR (de_var (pv 0))) (DE.toR (de_const pe_int (fun _ => Rep.int _))) (fun _ _ => rfl)) (da_nil) rfl) rfl) rfl rfl rfl) (da_nil) rfl) rfl) rfl rfl rfl) (dg_name (pg_name sc_way_of_two.nd rfl (by first | exact Or.inl rfl | exact Or.inr rfl) (by first | exact .inl rfl | exact .inr rfl))) rfl rfl rfl) (dss_cons (ds_asg (de_call (Bun.call (ok_plus B) i (by decide) (Bun.glo 14 rfl)) rfl (da_cons (de_call (Bun.call (ok_times B) i (by decide) (Bun.glo 15 rfl)) rfl (da_cons (de_op op_mulX rd_mul (DE.toR (de_var (pv 4))) (DE.toR (de_var (pv 2)))) (da_cons (de_ix rfl (DE.toR (de_var (pv 0))) (DE.toR (de_const pe_int (fun _ => Rep.int _))) (fun _ _ => rfl)) (da_nil) rfl) rfl) rfl rfl rfl) (da_cons (de_call (Bun.call (ok_times B) i (by decide) (Bun.glo 15 rfl)) rfl (da_cons (de_neg (de_ix rfl (DE.toR (de_var (pv 0))) (DE.toR (de_const pe_int (fun _ => Rep.int _))) (fun _ _ => rfl))) (da_cons (de_var (pv 5)) (da_nil) rfl) rfl) rfl rfl rfl) (da_nil) rfl) rfl) rfl rfl rfl) (dg_name (pg_name sc_way_of_two.nd rfl (by first | exact Or.inl rfl | exact Or.inr rfl) (by first | exact .inl rfl | exact .inr rfl))) rfl rfl rfl) (dss_cons (ds_ret (de_call (Bun.call (ok_least_way B) i (by decide) (Bun.glo 20 rfl)) rfl (da_cons (de_tup (da_cons (de_var (pv 6)) (da_cons (de_var (pv 5)) (da_nil) rfl) rfl)) (da_nil) rfl) rfl rfl rfl)) (dss_nil)))))
def N_bounds_at : List Str := ["sightings", "night", "first", "one", "last", "other"]
theorem sc_bounds_at : FnScope N_bounds_at ["sightings", "night"] (defScope (top 40)) := ⟨rfl, rfl, rfl, by decide +kernel, rfl, by decide +kernel, by decide +kernel⟩
def S_bounds_at : SemS := sSeq (sDrop (dCall 1 F_check_sightings (dCons (dV 0) (dNil)))) (sSeq (sIf (dOrB (dEqB eqT true (dBi bLen (dCons (dV 0) (dNil))) (dC (.int 2))) (dTru (dCall 2 F_is_on_line (dCons (dBin D.ix (dBin D.ix (dV 0) (dC (.int 0))) (dC (.int 1))) (dCons (dBin D.ix (dBin D.ix (dV 0) (dC (.int 1))) (dC (.int 1))) (dNil)))))) (sFail) (sNext)) (sSeq (sAsg (dV 0) (tgLst 2 (tgsCons (tgTup 2 (tgsCons (tgName 2) (tgsCons (tgName 3) (tgsNil)))) (tgsCons (tgTup 2 (tgsCons (tgName 4) (tgsCons (tgName 5) (tgsNil)))) (tgsNil))))) (sSeq (sIf (dOrB (dNotB (dTru (dCall 3 F_is_number (dCons (dV 1) (dCons (dC (.int 0)) (dCons (dC (.int 99)) (dNil))))))) (dBinB cIn (dV 1) (dTup (dCons (dV 2) (dCons (dV 4) (dNil)))))) (sFail) (sNext)) (sSeq (sIf (dBinB cLt (dV 1) (dV 2)) (sSeq (sRet (dTup (dCons (dCall 1 F_opposite (dCons (dV 5) (dNil))) (dCons (dCall 1 F_least (dCons (dV 3) (dNil))) (dNil))))) (sNext)) (sNext)) (sSeq (sRet (dIf (dBinB cLt (dV 1) (dV 4)) (dTup (dCons (dCall 1 F_least (dCons (dV 3) (dNil))) (dCons (dCall 1 F_least (dCons (dV 5) (dNil))) (dNil)))) (dTup (dCons (dCall 1 F_least (dCons (dV 5) (dNil))) (dCons (dCall 1 F_opposite (dCons (dV 3) (dNil))) (dNil)))))) (sNext))))))
def F_bounds_at : Fn := runB 6 (S_bounds_at)
theorem ok_bounds_at (B : Bn) : B.Ok ("bounds_at", none) 7 2 (F_bounds_at) := by
  obtain ⟨fd, F⟩ := B.say.def_ (d := dd_bounds_at) 40 rfl
  exact Bun.ok (k := 6) (N := N_bounds_at) (ps := ["sightings", "night"]) (S := S_bounds_at) F sc_bounds_at (fun _ _ _ _ _ _ us hl => match us, hl with | [_, _], _ => rfl) fun da me cdv A outer s H E i => (show DSs (B.G da me) (B.X N_bounds_at dd_bounds_at.qual dd_bounds_at.scope (He.fAd B.K ("bounds_at", none)) cdv A outer s H E) (defBody (top 40)) (S_bounds_at) from dss_cons (ds_expr (de_call (Bun.call (ok_check_sightings B) i (by decide) (Bun.glo 18 rfl)) rfl (da_cons (de_var (pv 0)) (da_nil) rfl) rfl rfl rfl) rfl) (dss_cons (ds_if (PW.pt (dw_or (dt_ne rfl Bun.kit (Bun.eqOk (eqRow B (by decide)) i) i.room.units (DE.toR (de_callB call_len bLen_ok rfl (Bun.free 54 rfl) (by decide +kernel) (dra_cons (DE.toR (de_var (pv 0))) (dra_nil) rfl) (by decide) rfl rfl rfl)) (de_const pe_int (fun _ => Rep.int _)) rfl) (dw_or1 (dt_tru rfl (DE.toR (de_call (Bun.call (ok_is_on_line B) i (by decide) (Bun.glo 16 rfl)) rfl (da_cons (de_ix rfl (DE.toR (de_ix rfl (DE.toR (de_var (pv 0))) (DE.toR (de_const pe_int (fun _ => Rep.int _))) (fun _ _ => rfl))) (DE.toR (de_const pe_int (fun _ => Rep.int _))) (fun _ _ => rfl)) (da_cons (de_ix rfl (DE.toR (de_ix rfl (DE.toR (de_var (pv 0))) (DE.toR (de_const pe_int (fun _ => Rep.int _))) (fun _ _ => rfl))) (DE.toR (de_const pe_int (fun _ => Rep.int _))) (fun _ _ => rfl)) (da_nil) rfl) rfl) rfl rfl rfl)) (fun _ => rfl))))) (dss_fail) (dss_nil)) (dss_cons (ds_asg (de_var (pv 0)) (dg_lst rfl rfl (dgs_cons (dg_tup rfl rfl (dgs_cons (dg_name (pg_name sc_bounds_at.nd rfl (by first | exact Or.inl rfl | exact Or.inr rfl) (by first | exact .inl rfl | exact .inr rfl))) (dgs_cons (dg_name (pg_name sc_bounds_at.nd rfl (by first | exact Or.inl rfl | exact Or.inr rfl) (by first | exact .inl rfl | exact .inr rfl))) (dgs_nil) rfl) rfl) rfl rfl) (dgs_cons (dg_tup rfl rfl (dgs_cons (dg_name (pg_name sc_bounds_at.nd rfl (by first | exact Or.inl rfl | exact Or.inr rfl) (by first | exact .inl rfl | exact .inr rfl))) (dgs_cons (dg_name (pg_name sc_bounds_at.nd rfl (by first | exact Or.inl rfl | exact Or.inr rfl) (by first | exact .inl rfl | exact .inr rfl))) (dgs_nil) rfl) rfl) rfl rfl) (dgs_nil) rfl) rfl) rfl rfl) rfl rfl rfl) (dss_cons (ds_if (PW.pt (dw_or (dt_not (dt_tru rfl (DE.toR (de_call (Bun.call (ok_is_number B) i (by decide) (Bun.glo 2 rfl)) rfl (da_cons (de_var (pv 1)) (da_cons (de_const pe_int (fun _ => Rep.int _)) (da_cons (de_int (He.int_ok B.hIn B.hNs (B.say.fact 94 rfl)) rfl) (da_nil) rfl) rfl) rfl) rfl rfl rfl)) (fun _ => rfl))) (dw_or1 (dc_test (op_inX (room65 i.room)) rd_in (DE.toR (de_var (pv 1))) (DE.toR (de_tup (da_cons (de_var (pv 2)) (da_cons (de_var (pv 4)) (da_nil) rfl) rfl))) rfl)))) (dss_fail) (dss_nil)) (dss_cons (ds_if (dc_test op_lt rd_lt (DE.toR (de_var (pv 1))) (DE.toR (de_var (pv 2))) rfl) (dss_cons (ds_ret (de_tup (da_cons (de_call (Bun.call (ok_opposite B) i (by decide) (Bun.glo 10 rfl)) rfl (da_cons (de_var (pv 5)) (da_nil) rfl) rfl rfl rfl) (da_cons (de_call (Bun.call (ok_least B) i (by decide) (Bun.glo 9 rfl)) rfl (da_cons (de_var (pv 3)) (da_nil) rfl) rfl rfl rfl) (da_nil) rfl) rfl))) (dss_nil)) (dss_nil)) (dss_cons (ds_ret (de_if (dc_test op_lt rd_lt (DE.toR (de_var (pv 1))) (DE.toR (de_var (pv 4))) rfl) (de_tup (da_cons (de_call (Bun.call (ok_least B) i (by decide) (Bun.glo 9 rfl)) rfl (da_cons (de_var (pv 3)) (da_nil) rfl) rfl rfl rfl) (da_cons (de_call (Bun.call (ok_least B) i (by decide) (Bun.glo 9 rfl)) rfl (da_cons (de_var (pv 5)) (da_nil) rfl) rfl rfl rfl) (da_nil) rfl) rfl)) (de_tup (da_cons (de_call (Bun.call (ok_least B) i (by decide) (Bun.glo 9 rfl)) rfl (da_cons (de_var (pv 5)) (da_nil) rfl) rfl rfl rfl) (da_cons (de_call (Bun.call (ok_opposite B) i (by decide) (Bun.glo 10 rfl)) rfl (da_cons (de_var (pv 3)) (da_nil) rfl) rfl rfl rfl) (da_nil) rfl) rfl)))) (dss_nil)))))))
def N_is_within : List Str := ["sightings", "night", "direction", "low", "high"]
theorem sc_is_within : FnScope N_is_within ["sightings", "night", "direction"] (defScope (top 41)) := ⟨rfl, rfl, rfl, by decide +kernel, rfl, by decide +kernel, by decide +kernel⟩
def S_is_within : SemS := sSeq (sAsg (dCall 2 F_bounds_at (dCons (dV 0) (dCons (dV 1) (dNil)))) (tgTup 2 (tgsCons (tgName 3) (tgsCons (tgName 4) (tgsNil))))) (sSeq (sIf (dNotB (dTru (dCall 1 F_is_direction (dCons (dV 2) (dNil))))) (sFail) (sNext)) (sSeq (sRet (dCall 3 F_is_between (dCons (dV 3) (dCons (dV 2) (dCons (dV 4) (dNil)))))) (sNext)))
def F_is_within : Fn := runB 5 (S_is_within)
theorem ok_is_within (B : Bn) : B.Ok ("is_within", none) 8 3 (F_is_within) := by
  obtain ⟨fd, F⟩ := B.say.def_ (d := dd_is_within) 41 rfl
  exact Bun.ok (k := 7) (N := N_is_within) (ps := ["sightings", "night", "direction"]) (S := S_is_within) F sc_is_within (fun _ _ _ _ _ _ us hl => match us, hl with | [_, _, _], _ => rfl) fun da me cdv A outer s H E i => (show DSs (B.G da me) (B.X N_is_within dd_is_within.qual dd_is_within.scope (He.fAd B.K ("is_within", none)) cdv A outer s H E) (defBody (top 41)) (S_is_within) from dss_cons (ds_asg (de_call (Bun.call (ok_bounds_at B) i (by decide) (Bun.glo 28 rfl)) rfl (da_cons (de_var (pv 0)) (da_cons (de_var (pv 1)) (da_nil) rfl) rfl) rfl rfl rfl) (dg_tup rfl rfl (dgs_cons (dg_name (pg_name sc_is_within.nd rfl (by first | exact Or.inl rfl | exact Or.inr rfl) (by first | exact .inl rfl | exact .inr rfl))) (dgs_cons (dg_name (pg_name sc_is_within.nd rfl (by first | exact Or.inl rfl | exact Or.inr rfl) (by first | exact .inl rfl | exact .inr rfl))) (dgs_nil) rfl) rfl) rfl rfl) rfl rfl rfl) (dss_cons (ds_if (dt_not (dt_tru rfl (DE.toR (de_call (Bun.call (ok_is_direction B) i (by decide) (Bun.glo 7 rfl)) rfl (da_cons (de_var (pv 2)) (da_nil) rfl) rfl rfl rfl)) (fun _ => rfl))) (dss_fail) (dss_nil)) (dss_cons (ds_ret (de_call (Bun.call (ok_is_between B) i (by decide) (Bun.glo 17 rfl)) rfl (da_cons (de_var (pv 3)) (da_cons (de_var (pv 2)) (da_cons (de_var (pv 4)) (da_nil) rfl) rfl) rfl) rfl rfl rfl)) (dss_nil))))
def N_circle_of : List Str := ["way", "found"]
theorem sc_circle_of : FnScope N_circle_of ["way"] (defScope (top 43)) := ⟨rfl, rfl, rfl, by decide +kernel, rfl, by decide +kernel, by decide +kernel⟩
def S_circle_of : SemS := sSeq (sDrop (dCall 1 F_check_way (dCons (dV 0) (dNil)))) (sSeq (sAsg (dCall 2 F_cross (dCons (dBin D.ix (dV 0) (dC (.int 0))) (dCons (dBin D.ix (dV 0) (dC (.int 1))) (dNil)))) (tgName 1)) (sSeq (sRet (dIf (dEqB eqT false (dV 1) (dTup (dCons (dC (.int 0)) (dCons (dC (.int 0)) (dCons (dC (.int 0)) (dNil)))))) (dC .non) (dCall 1 F_least (dCons (dV 1) (dNil))))) (sNext)))
def F_circle_of : Fn := runB 2 (S_circle_of)
theorem ok_circle_of (B : Bn) : B.Ok ("circle_of", none) 6 1 (F_circle_of) := by
  obtain ⟨fd, F⟩ := B.say.def_ (d := dd_circle_of) 43 rfl
  exact Bun.ok (k := 5) (N := N_circle_of) (ps := ["way"]) (S := S_circle_of) F sc_circle_of (fun _ _ _ _ _ _ us hl => match us, hl with | [_], _ => rfl) fun da me cdv A outer s H E i => (show DSs (B.G da me) (B.X N_circle_of dd_circle_of.qual dd_circle_of.scope (He.fAd B.K ("circle_of", none)) cdv A outer s H E) (defBody (top 43)) (S_circle_of) from dss_cons (ds_expr (de_call (Bun.call (ok_check_way B) i (by decide) (Bun.glo 23 rfl)) rfl (da_cons (de_var (pv 0)) (da_nil) rfl) rfl rfl rfl) rfl) (dss_cons (ds_asg (de_call (Bun.call (ok_cross B) i (by decide) (Bun.glo 12 rfl)) rfl (da_cons (de_ix rfl (DE.toR (de_var (pv 0))) (DE.toR (de_const pe_int (fun _ => Rep.int _))) (fun _ _ => rfl)) (da_cons (de_ix rfl (DE.toR (de_var (pv 0))) (DE.toR (de_const pe_int (fun _ => Rep.int _))) (fun _ _ => rfl)) (da_nil) rfl) rfl) rfl rfl rfl) (dg_name (pg_name sc_circle_of.nd rfl (by first | exact Or.inl rfl | exact Or.inr rfl) (by first | exact .inl rfl | exact .inr rfl))) rfl rfl rfl) (dss_cons (ds_ret (de_if (dt_eq rfl Bun.kit (Bun.eqOk (eqRow B (by decide)) i) i.room.units (DE.toR (de_var (pv 1))) (de_tup (da_cons (de_const pe_int (fun _ => Rep.int _)) (da_cons (de_const pe_int (fun _ => Rep.int _)) (da_cons (de_const pe_int (fun _ => Rep.int _)) (da_nil) rfl) rfl) rfl)) rfl) (de_const pe_non (fun _ => Rep.non)) (de_call (Bun.call (ok_least B) i (by decide) (Bun.glo 9 rfl)) rfl (da_cons (de_var (pv 1)) (da_nil) rfl) rfl rfl rfl))) (dss_nil))))
def N_side_of : List Str := ["way", "direction", "found"]
theorem sc_side_of : FnScope N_side_of ["way", "direction"] (defScope (top 44)) := ⟨rfl, rfl, rfl, by decide +kernel, rfl, by decide +kernel, by decide +kernel⟩
def S_side_of : SemS := sSeq (sDrop (dCall 1 F_check_way (dCons (dV 0) (dNil)))) (sSeq (sIf (dNotB (dTru (dCall 1 F_is_direction (dCons (dV 1) (dNil))))) (sFail) (sNext)) (sSeq (sAsg (dCall 3 F_det (dCons (dBin D.ix (dV 0) (dC (.int 0))) (dCons (dBin D.ix (dV 0) (dC (.int 1))) (dCons (dV 1) (dNil))))) (tgName 2)) (sSeq (sRet (dIf (dBinB cGtA (dV 2) (dC (.int 0))) (dC (.int 1)) (dIf (dEqB eqT false (dV 2) (dC (.int 0))) (dC (.int 0)) (dUn D.neg (dC (.int 1)))))) (sNext))))
def F_side_of : Fn := runB 3 (S_side_of)
theorem ok_side_of (B : Bn) : B.Ok ("side_of", none) 5 2 (F_side_of) := by
  obtain ⟨fd, F⟩ := B.say.def_ (d := dd_side_of) 44 rfl
  exact Bun.ok (k := 4) (N := N_side_of) (ps := ["way", "direction"]) (S := S_side_of) F sc_side_of (fun _ _ _ _ _ _ us hl => match us, hl with | [_, _], _ => rfl) fun da me cdv A outer s H E i => (show DSs (B.G da me) (B.X N_side_of dd_side_of.qual dd_side_of.scope (He.fAd B.K ("side_of", none)) cdv A outer s H E) (defBody (top 44)) (S_side_of) from dss_cons (ds_expr (de_call (Bun.call (ok_check_way B) i (by decide) (Bun.glo 23 rfl)) rfl (da_cons (de_var (pv 0)) (da_nil) rfl) rfl rfl rfl) rfl) (dss_cons (ds_if (dt_not (dt_tru rfl (DE.toR (de_call (Bun.call (ok_is_direction B) i (by decide) (Bun.glo 7 rfl)) rfl (da_cons (de_var (pv 1)) (da_nil) rfl) rfl rfl rfl)) (fun _ => rfl))) (dss_fail) (dss_nil)) (dss_cons (ds_asg (de_call (Bun.call (ok_det B) i (by decide) (Bun.glo 13 rfl)) rfl (da_cons (de_ix rfl (DE.toR (de_var (pv 0))) (DE.toR (de_const pe_int (fun _ => Rep.int _))) (fun _ _ => rfl)) (da_cons (de_ix rfl (DE.toR (de_var (pv 0))) (DE.toR (de_const pe_int (fun _ => Rep.int _))) (fun _ _ => rfl)) (da_cons (de_var (pv 1)) (da_nil) rfl) rfl) rfl) rfl rfl rfl) (dg_name (pg_name sc_side_of.nd rfl (by first | exact Or.inl rfl | exact Or.inr rfl) (by first | exact .inl rfl | exact .inr rfl))) rfl rfl rfl) (dss_cons (ds_ret (de_if (dc_test (op_gtA i.room.units0) rd_gtA (DE.toR (de_var (pv 2))) (DE.toR (de_const pe_int (fun _ => Rep.int _))) rfl) (de_const pe_int (fun _ => Rep.int _)) (de_if (dt_eq rfl Bun.kit (Bun.eqOk (eqRow B (by decide)) i) i.room.units (DE.toR (de_var (pv 2))) (de_const pe_int (fun _ => Rep.int _)) rfl) (de_const pe_int (fun _ => Rep.int _)) (de_neg (de_const pe_int (fun _ => Rep.int _)))))) (dss_nil)))))
def N_Apart___bool__ : List Str := ["self"]
theorem sc_Apart___bool__ : FnScope N_Apart___bool__ ["self"] (defScope (inClass (top 48) 1)) := ⟨rfl, rfl, rfl, by decide +kernel, rfl, by decide +kernel, by decide +kernel⟩
def S_Apart___bool__ : SemS := sSeq (sRet (dC (.bl true))) (sNext)
def F_Apart___bool__ : Fn := runB 1 (S_Apart___bool__)
theorem ok_Apart___bool__ (B : Bn) : B.Ok ("Apart", some "__bool__") 1 1 (F_Apart___bool__) := by
  obtain ⟨fd, F⟩ := B.say.def_ (d := dd_Apart___bool__) 46 rfl
  exact Bun.ok (k := 0) (N := N_Apart___bool__) (ps := ["self"]) (S := S_Apart___bool__) F sc_Apart___bool__ (fun _ _ _ _ _ _ us hl => match us, hl with | [_], _ => rfl) fun da me cdv A outer s H E i => (show DSs (B.G da me) (B.X N_Apart___bool__ dd_Apart___bool__.qual dd_Apart___bool__.scope (He.fAd B.K ("Apart", some "__bool__")) cdv A outer s H E) (defBody (inClass (top 48) 1)) (S_Apart___bool__) from dss_cons (ds_ret (de_const pe_bl (fun _ => Rep.bl _))) (dss_nil))
def N_Apart_shows : List Str := ["self", "nights"]
theorem sc_Apart_shows : FnScope N_Apart_shows ["self", "nights"] (defScope (inClass (top 48) 3)) := ⟨rfl, rfl, rfl, by decide +kernel, rfl, by decide +kernel, by decide +kernel⟩
def S_Apart_shows : SemS := sSeq (sDrop (dCall 1 F__wall (dCons (dC (.int 3)) (dNil)))) (sNext)
def F_Apart_shows : Fn := runB 2 (S_Apart_shows)
theorem ok_Apart_shows (B : Bn) : B.Ok ("Apart", some "shows") 2 2 (F_Apart_shows) := by
  obtain ⟨fd, F⟩ := B.say.def_ (d := dd_Apart_shows) 48 rfl
  exact Bun.ok (k := 1) (N := N_Apart_shows) (ps := ["self", "nights"]) (S := S_Apart_shows) F sc_Apart_shows (fun _ _ _ _ _ _ us hl => match us, hl with | [_, _], _ => rfl) fun da me cdv A outer s H E i => (show DSs (B.G da me) (B.X N_Apart_shows dd_Apart_shows.qual dd_Apart_shows.scope (He.fAd B.K ("Apart", some "shows")) cdv A outer s H E) (defBody (inClass (top 48) 3)) (S_Apart_shows) from dss_cons (ds_expr (de_call (Bun.call (ok__wall B) i (by decide) (Bun.glo 0 rfl)) rfl (da_cons (de_const pe_int (fun _ => Rep.int _)) (da_nil) rfl) rfl rfl rfl) rfl) (dss_nil))
def N_Mixed___bool__ : List Str := ["self"]
theorem sc_Mixed___bool__ : FnScope N_Mixed___bool__ ["self"] (defScope (inClass (top 49) 1)) := ⟨rfl, rfl, rfl, by decide +kernel, rfl, by decide +kernel, by decide +kernel⟩
def S_Mixed___bool__ : SemS := sSeq (sRet (dC (.bl false))) (sNext)
def F_Mixed___bool__ : Fn := runB 1 (S_Mixed___bool__)
theorem ok_Mixed___bool__ (B : Bn) : B.Ok ("Mixed", some "__bool__") 1 1 (F_Mixed___bool__) := by
  obtain ⟨fd, F⟩ := B.say.def_ (d := dd_Mixed___bool__) 50 rfl
  exact Bun.ok (k := 0) (N := N_Mixed___bool__) (ps := ["self"]) (S := S_Mixed___bool__) F sc_Mixed___bool__ (fun _ _ _ _ _ _ us hl => match us, hl with | [_], _ => rfl) fun da me cdv A outer s H E i => (show DSs (B.G da me) (B.X N_Mixed___bool__ dd_Mixed___bool__.qual dd_Mixed___bool__.scope (He.fAd B.K ("Mixed", some "__bool__")) cdv A outer s H E) (defBody (inClass (top 49) 1)) (S_Mixed___bool__) from dss_cons (ds_ret (de_const pe_bl (fun _ => Rep.bl _))) (dss_nil))
def N_Mixed_shows : List Str := ["self", "nights"]
theorem sc_Mixed_shows : FnScope N_Mixed_shows ["self", "nights"] (defScope (inClass (top 49) 3)) := ⟨rfl, rfl, rfl, by decide +kernel, rfl, by decide +kernel, by decide +kernel⟩
def S_Mixed_shows : SemS := sSeq (sDrop (dCall 1 F__wall (dCons (dC (.int 4)) (dNil)))) (sNext)
def F_Mixed_shows : Fn := runB 2 (S_Mixed_shows)
theorem ok_Mixed_shows (B : Bn) : B.Ok ("Mixed", some "shows") 2 2 (F_Mixed_shows) := by
  obtain ⟨fd, F⟩ := B.say.def_ (d := dd_Mixed_shows) 52 rfl
  exact Bun.ok (k := 1) (N := N_Mixed_shows) (ps := ["self", "nights"]) (S := S_Mixed_shows) F sc_Mixed_shows (fun _ _ _ _ _ _ us hl => match us, hl with | [_, _], _ => rfl) fun da me cdv A outer s H E i => (show DSs (B.G da me) (B.X N_Mixed_shows dd_Mixed_shows.qual dd_Mixed_shows.scope (He.fAd B.K ("Mixed", some "shows")) cdv A outer s H E) (defBody (inClass (top 49) 3)) (S_Mixed_shows) from dss_cons (ds_expr (de_call (Bun.call (ok__wall B) i (by decide) (Bun.glo 0 rfl)) rfl (da_cons (de_const pe_int (fun _ => Rep.int _)) (da_nil) rfl) rfl rfl rfl) rfl) (dss_nil))
def N_NoBodies___bool__ : List Str := ["self"]
theorem sc_NoBodies___bool__ : FnScope N_NoBodies___bool__ ["self"] (defScope (inClass (top 50) 0)) := ⟨rfl, rfl, rfl, by decide +kernel, rfl, by decide +kernel, by decide +kernel⟩
def S_NoBodies___bool__ : SemS := sSeq (sRet (dC (.bl false))) (sNext)
def F_NoBodies___bool__ : Fn := runB 1 (S_NoBodies___bool__)
theorem ok_NoBodies___bool__ (B : Bn) : B.Ok ("NoBodies", some "__bool__") 1 1 (F_NoBodies___bool__) := by
  obtain ⟨fd, F⟩ := B.say.def_ (d := dd_NoBodies___bool__) 53 rfl
  exact Bun.ok (k := 0) (N := N_NoBodies___bool__) (ps := ["self"]) (S := S_NoBodies___bool__) F sc_NoBodies___bool__ (fun _ _ _ _ _ _ us hl => match us, hl with | [_], _ => rfl) fun da me cdv A outer s H E i => (show DSs (B.G da me) (B.X N_NoBodies___bool__ dd_NoBodies___bool__.qual dd_NoBodies___bool__.scope (He.fAd B.K ("NoBodies", some "__bool__")) cdv A outer s H E) (defBody (inClass (top 50) 0)) (S_NoBodies___bool__) from dss_cons (ds_ret (de_const pe_bl (fun _ => Rep.bl _))) (dss_nil))
def mt___bool__ : Mt := fun c m => match c with
  | .Way => if m = "__bool__" then some (0, F_Way___bool__) else none
  | .Ways => if m = "__bool__" then some (0, F_Ways___bool__) else none
  | .NoWay => if m = "__bool__" then some (0, F_NoWay___bool__) else none
  | .Apart => if m = "__bool__" then some (0, F_Apart___bool__) else none
  | .Mixed => if m = "__bool__" then some (0, F_Mixed___bool__) else none
  | .NoBodies => if m = "__bool__" then some (0, F_NoBodies___bool__) else none
  | _ => none
theorem mtOk___bool__ (B : Bn) {da : Option Addr} {me : Option (Addr × Addr × Addr)} {X : Cx} {k : Nat} (i : B.In X k) (hk : 1 ≤ k) : ∀ c n F, mt___bool__ c "__bool__" = some (n, F) → MethOk (B.G da me) X c "__bool__" n F := by
  intro c n F h
  cases c <;> first | (cases h; first | exact Bun.meth (ok_Way___bool__ B) i (Nat.le_trans (by decide) hk) (by decide) (B.say.fact 71 rfl) | exact Bun.meth (ok_Ways___bool__ B) i (Nat.le_trans (by decide) hk) (by decide) (B.say.fact 75 rfl) | exact Bun.meth (ok_NoWay___bool__ B) i (Nat.le_trans (by decide) hk) (by decide) (B.say.fact 79 rfl) | exact Bun.meth (ok_Apart___bool__ B) i (Nat.le_trans (by decide) hk) (by decide) (B.say.fact 83 rfl) | exact Bun.meth (ok_Mixed___bool__ B) i (Nat.le_trans (by decide) hk) (by decide) (B.say.fact 87 rfl) | exact Bun.meth (ok_NoBodies___bool__ B) i (Nat.le_trans (by decide) hk) (by decide) (B.say.fact 90 rfl)) | (cases h)
def boT : Eqt := fun c => match c with
  | .Way => some F_Way___bool__
  | .Ways => some F_Ways___bool__
  | .NoWay => some F_NoWay___bool__
  | .Apart => some F_Apart___bool__
  | .Mixed => some F_Mixed___bool__
  | .NoBodies => some F_NoBodies___bool__
  | _ => none
theorem boRow (B : Bn) {k : Nat} (hk : 3 ≤ k) : B.BoRow k boT := by
  intro c F h
  cases c <;> first | (cases h; first | exact ⟨1, Nat.le_trans (by decide) hk, ok_Way___bool__ B, B.say.fact 71 rfl⟩ | exact ⟨1, Nat.le_trans (by decide) hk, ok_Ways___bool__ B, B.say.fact 75 rfl⟩ | exact ⟨1, Nat.le_trans (by decide) hk, ok_NoWay___bool__ B, B.say.fact 79 rfl⟩ | exact ⟨1, Nat.le_trans (by decide) hk, ok_Apart___bool__ B, B.say.fact 83 rfl⟩ | exact ⟨1, Nat.le_trans (by decide) hk, ok_Mixed___bool__ B, B.say.fact 87 rfl⟩ | exact ⟨1, Nat.le_trans (by decide) hk, ok_NoBodies___bool__ B, B.say.fact 90 rfl⟩) | (cases h)
def N_NoBodies_shows : List Str := ["self", "nights"]
theorem sc_NoBodies_shows : FnScope N_NoBodies_shows ["self", "nights"] (defScope (inClass (top 50) 2)) := ⟨rfl, rfl, rfl, by decide +kernel, rfl, by decide +kernel, by decide +kernel⟩
def S_NoBodies_shows : SemS := sSeq (sDrop (dCall 1 F__wall (dCons (dC (.int 5)) (dNil)))) (sNext)
def F_NoBodies_shows : Fn := runB 2 (S_NoBodies_shows)
theorem ok_NoBodies_shows (B : Bn) : B.Ok ("NoBodies", some "shows") 2 2 (F_NoBodies_shows) := by
  obtain ⟨fd, F⟩ := B.say.def_ (d := dd_NoBodies_shows) 55 rfl
  exact Bun.ok (k := 1) (N := N_NoBodies_shows) (ps := ["self", "nights"]) (S := S_NoBodies_shows) F sc_NoBodies_shows (fun _ _ _ _ _ _ us hl => match us, hl with | [_, _], _ => rfl) fun da me cdv A outer s H E i => (show DSs (B.G da me) (B.X N_NoBodies_shows dd_NoBodies_shows.qual dd_NoBodies_shows.scope (He.fAd B.K ("NoBodies", some "shows")) cdv A outer s H E) (defBody (inClass (top 50) 2)) (S_NoBodies_shows) from dss_cons (ds_expr (de_call (Bun.call (ok__wall B) i (by decide) (Bun.glo 0 rfl)) rfl (da_cons (de_const pe_int (fun _ => Rep.int _)) (da_nil) rfl) rfl rfl rfl) rfl) (dss_nil))
def mt_shows : Mt := fun c m => match c with
  | .Way => if m = "shows" then some (1, F_Way_shows) else none
  | .Ways => if m = "shows" then some (1, F_Ways_shows) else none
  | .NoWay => if m = "shows" then some (1, F_NoWay_shows) else none
  | .Apart => if m = "shows" then some (1, F_Apart_shows) else none
  | .Mixed => if m = "shows" then some (1, F_Mixed_shows) else none
  | .NoBodies => if m = "shows" then some (1, F_NoBodies_shows) else none
  | _ => none
theorem mtOk_shows (B : Bn) {da : Option Addr} {me : Option (Addr × Addr × Addr)} {X : Cx} {k : Nat} (i : B.In X k) (hk : 2 ≤ k) : ∀ c n F, mt_shows c "shows" = some (n, F) → MethOk (B.G da me) X c "shows" n F := by
  intro c n F h
  cases c <;> first | (cases h; first | exact Bun.meth (ok_Way_shows B) i (Nat.le_trans (by decide) hk) (by decide) (B.say.fact 73 rfl) | exact Bun.meth (ok_Ways_shows B) i (Nat.le_trans (by decide) hk) (by decide) (B.say.fact 77 rfl) | exact Bun.meth (ok_NoWay_shows B) i (Nat.le_trans (by decide) hk) (by decide) (B.say.fact 81 rfl) | exact Bun.meth (ok_Apart_shows B) i (Nat.le_trans (by decide) hk) (by decide) (B.say.fact 85 rfl) | exact Bun.meth (ok_Mixed_shows B) i (Nat.le_trans (by decide) hk) (by decide) (B.say.fact 89 rfl) | exact Bun.meth (ok_NoBodies_shows B) i (Nat.le_trans (by decide) hk) (by decide) (B.say.fact 92 rfl)) | (cases h)
def N_frozen : List Str := ["rows", "one", "row"]
theorem sc_frozen : FnScope N_frozen ["rows"] (defScope (top 51)) := ⟨rfl, rfl, rfl, by decide +kernel, rfl, by decide +kernel, by decide +kernel⟩
def S_frozen : SemS := sSeq (sIf (dOrB (dNotB (dTru (dCall 1 F_is_row (dCons (dV 0) (dNil))))) (dNotB (dTru (dBi bAll (dCons (dLc [1] (dItems (dV 0)) (tgName 1) (dTrue) (dCall 1 F_is_row (dCons (dV 1) (dNil)))) (dNil)))))) (sSeq (sRet (dV 0)) (sNext)) (sNext)) (sSeq (sRet (dBi bTup (dCons (dLc [2] (dItems (dV 0)) (tgName 2) (dTrue) (dBi bTup (dCons (dV 2) (dNil)))) (dNil)))) (sNext))
def F_frozen : Fn := runB 3 (S_frozen)
theorem ok_frozen (B : Bn) : B.Ok ("frozen", none) 2 1 (F_frozen) := by
  obtain ⟨fd, F⟩ := B.say.def_ (d := dd_frozen) 56 rfl
  exact Bun.ok (k := 1) (N := N_frozen) (ps := ["rows"]) (S := S_frozen) F sc_frozen (fun _ _ _ _ _ _ us hl => match us, hl with | [_], _ => rfl) fun da me cdv A outer s H E i => (show DSs (B.G da me) (B.X N_frozen dd_frozen.qual dd_frozen.scope (He.fAd B.K ("frozen", none)) cdv A outer s H E) (defBody (top 51)) (S_frozen) from dss_cons (ds_if (PW.pt (dw_or (dt_not (dt_tru rfl (DE.toR (de_call (Bun.call (ok_is_row B) i (by decide) (Bun.glo 4 rfl)) rfl (da_cons (de_var (pv 0)) (da_nil) rfl) rfl rfl rfl)) (fun _ => rfl))) (dw_or1 (dt_not (dt_tru rfl (DE.toR (de_callB (cr_all rfl) bAll_ok rfl (Bun.free 55 rfl) (by decide +kernel) (dra_cons (DE.toR (de_lc rfl sc_frozen.nd (di_seq rfl (de_var (pv 0))) (blkOk_by (own := [("one", 1)]) rfl) (fun _ _ _ _ _ => dg_name (pg_name sc_frozen.nd rfl (by first | exact Or.inl rfl | exact Or.inr rfl) (by first | exact .inl rfl | exact .inr rfl))) (fun _ _ _ _ _ => dts_nil) (fun _ _ _ _ _ => de_call (Bun.call (ok_is_row B) i.blk (by decide) (Bun.glo 4 rfl)) rfl (da_cons (de_var (pv 1)) (da_nil) rfl) rfl rfl rfl) (by decide) (fun _ => rfl) rfl)) (dra_nil) rfl) (by decide) rfl rfl rfl)) (fun _ => rfl)))))) (dss_cons (ds_ret (de_var (pv 0))) (dss_nil)) (dss_nil)) (dss_cons (ds_ret (de_callT call_tuple_of bTup_ok rfl (Bun.free 61 rfl) (by decide +kernel) (dra_cons (DE.toR (de_lc rfl sc_frozen.nd (di_seq rfl (de_var (pv 0))) (blkOk_by (own := [("row", 2)]) rfl) (fun _ _ _ _ _ => dg_name (pg_name sc_frozen.nd rfl (by first | exact Or.inl rfl | exact Or.inr rfl) (by first | exact .inl rfl | exact .inr rfl))) (fun _ _ _ _ _ => dts_nil) (fun _ _ _ _ _ => de_callT call_tuple_of bTup_ok rfl (Bun.free 61 rfl) (by decide +kernel) (dra_cons (DE.toR (de_var (pv 2))) (dra_nil) rfl) (by decide) rfl rfl rfl) (by decide) (fun _ => rfl) rfl)) (dra_nil) rfl) (by decide) rfl rfl rfl)) (dss_nil)))
def N_are_unlike : List Str := ["points", "one"]
theorem sc_are_unlike : FnScope N_are_unlike ["points"] (defScope (top 53)) := ⟨rfl, rfl, rfl, by decide +kernel, rfl, by decide +kernel, by decide +kernel⟩
def S_are_unlike : SemS := sSeq (sIf (dOrB (dNotB (dTru (dCall 1 F_is_row (dCons (dV 0) (dNil))))) (dOrB (dNotB (dChain cLe cLe (dC (.int 1)) (dBi bLen (dCons (dV 0) (dNil))) (dC (.int 5)))) (dNotB (dTru (dBi bAll (dCons (dLc [1] (dItems (dV 0)) (tgName 1) (dTrue) (dCall 1 F_is_direction (dCons (dV 1) (dNil)))) (dNil))))))) (sSeq (sRet (dC (.bl false))) (sNext)) (sNext)) (sSeq (sRet (dEq eqT false (dUn D.lenSet (dLc [1] (dItems (dV 0)) (tgName 1) (dTrue) (dCall 1 F_least (dCons (dV 1) (dNil))))) (dBi bLen (dCons (dV 0) (dNil))))) (sNext))
def F_are_unlike : Fn := runB 2 (S_are_unlike)
theorem ok_are_unlike (B : Bn) : B.Ok ("are_unlike", none) 6 1 (F_are_unlike) := by
  obtain ⟨fd, F⟩ := B.say.def_ (d := dd_are_unlike) 58 rfl
  exact Bun.ok (k := 5) (N := N_are_unlike) (ps := ["points"]) (S := S_are_unlike) F sc_are_unlike (fun _ _ _ _ _ _ us hl => match us, hl with | [_], _ => rfl) fun da me cdv A outer s H E i => (show DSs (B.G da me) (B.X N_are_unlike dd_are_unlike.qual dd_are_unlike.scope (He.fAd B.K ("are_unlike", none)) cdv A outer s H E) (defBody (top 53)) (S_are_unlike) from dss_cons (ds_if (PW.pt (dw_or (dt_not (dt_tru rfl (DE.toR (de_call (Bun.call (ok_is_row B) i (by decide) (Bun.glo 4 rfl)) rfl (da_cons (de_var (pv 0)) (da_nil) rfl) rfl rfl rfl)) (fun _ => rfl))) (dw_or (dt_not (dt_chain op_le op_le rd_le rd_le (DE.toR (de_const pe_int (fun _ => Rep.int _))) (DE.toR (de_callB call_len bLen_ok rfl (Bun.free 54 rfl) (by decide +kernel) (dra_cons (DE.toR (de_var (pv 0))) (dra_nil) rfl) (by decide) rfl rfl rfl)) (DE.toR (de_int (He.int_ok B.hIn B.hNs (B.say.fact 95 rfl)) rfl)) rfl)) (dw_or1 (dt_not (dt_tru rfl (DE.toR (de_callB (cr_all rfl) bAll_ok rfl (Bun.free 55 rfl) (by decide +kernel) (dra_cons (DE.toR (de_lc rfl sc_are_unlike.nd (di_seq rfl (de_var (pv 0))) (blkOk_by (own := [("one", 1)]) rfl) (fun _ _ _ _ _ => dg_name (pg_name sc_are_unlike.nd rfl (by first | exact Or.inl rfl | exact Or.inr rfl) (by first | exact .inl rfl | exact .inr rfl))) (fun _ _ _ _ _ => dts_nil) (fun _ _ _ _ _ => de_call (Bun.call (ok_is_direction B) i.blk (by decide) (Bun.glo 7 rfl)) rfl (da_cons (de_var (pv 1)) (da_nil) rfl) rfl rfl rfl) (by decide) (fun _ => rfl) rfl)) (dra_nil) rfl) (by decide) rfl rfl rfl)) (fun _ => rfl))))))) (dss_cons (ds_ret (de_const pe_bl (fun _ => Rep.bl _))) (dss_nil)) (dss_nil)) (dss_cons (ds_ret (de_eq rfl Bun.kit (Bun.eqOk (eqRow B (by decide)) i) i.room.units (DE.toR (de_lenSet rfl rfl (room65 i.room) rfl (Bun.free 54 rfl) rfl (Bun.free 63 rfl) (de_lc rfl sc_are_unlike.nd (di_seq rfl (de_var (pv 0))) (blkOk_by (own := [("one", 1)]) rfl) (fun _ _ _ _ _ => dg_name (pg_name sc_are_unlike.nd rfl (by first | exact Or.inl rfl | exact Or.inr rfl) (by first | exact .inl rfl | exact .inr rfl))) (fun _ _ _ _ _ => dts_nil) (fun _ _ _ _ _ => de_call (Bun.call (ok_least B) i.blk (by decide) (Bun.glo 9 rfl)) rfl (da_cons (de_var (pv 1)) (da_nil) rfl) rfl rfl rfl) (by decide) (fun _ => rfl) rfl) rfl)) (de_callB call_len bLen_ok rfl (Bun.free 54 rfl) (by decide +kernel) (dra_cons (DE.toR (de_var (pv 0))) (dra_nil) rfl) (by decide) rfl rfl rfl) rfl)) (dss_nil)))
def N_sightings_of : List Str := ["nights", "row", "night", "points", "at"]
theorem sc_sightings_of : FnScope N_sightings_of ["nights", "row"] (defScope (top 54)) := ⟨rfl, rfl, rfl, by decide +kernel, rfl, by decide +kernel, by decide +kernel⟩
def S_sightings_of : SemS := sSeq (sRet (dLc [2, 3, 4] (dZipM (dCons (dV 0) (dCons (dV 1) (dNil)))) (tgTup 2 (tgsCons (tgTup 2 (tgsCons (tgName 2) (tgsCons (tgName 3) (tgsNil)))) (tgsCons (tgName 4) (tgsNil)))) (dTrue) (dTup (dCons (dV 2) (dCons (dBin D.ix (dV 3) (dV 4)) (dNil)))))) (sNext)
def F_sightings_of : Fn := runB 5 (S_sightings_of)
theorem ok_sightings_of (B : Bn) : B.Ok ("sightings_of", none) 1 2 (F_sightings_of) := by
  obtain ⟨fd, F⟩ := B.say.def_ (d := dd_sightings_of) 59 rfl
  exact Bun.ok (k := 0) (N := N_sightings_of) (ps := ["nights", "row"]) (S := S_sightings_of) F sc_sightings_of (fun _ _ _ _ _ _ us hl => match us, hl with | [_, _], _ => rfl) fun da me cdv A outer s H E i => (show DSs (B.G da me) (B.X N_sightings_of dd_sightings_of.qual dd_sightings_of.scope (He.fAd B.K ("sightings_of", none)) cdv A outer s H E) (defBody (top 54)) (S_sightings_of) from dss_cons (ds_ret (de_lc rfl sc_sightings_of.nd (di_zipM rfl rfl (Bun.free 58 rfl) (da_cons (de_var (pv 0)) (da_cons (de_var (pv 1)) (da_nil) rfl) rfl) rfl rfl) (blkOk_by (own := [("night", 2), ("points", 3), ("at", 4)]) rfl) (fun _ _ _ _ _ => dg_tup rfl rfl (dgs_cons (dg_tup rfl rfl (dgs_cons (dg_name (pg_name sc_sightings_of.nd rfl (by first | exact Or.inl rfl | exact Or.inr rfl) (by first | exact .inl rfl | exact .inr rfl))) (dgs_cons (dg_name (pg_name sc_sightings_of.nd rfl (by first | exact Or.inl rfl | exact Or.inr rfl) (by first | exact .inl rfl | exact .inr rfl))) (dgs_nil) rfl) rfl) rfl rfl) (dgs_cons (dg_name (pg_name sc_sightings_of.nd rfl (by first | exact Or.inl rfl | exact Or.inr rfl) (by first | exact .inl rfl | exact .inr rfl))) (dgs_nil) rfl) rfl) rfl rfl) (fun _ _ _ _ _ => dts_nil) (fun _ _ _ _ _ => de_tup (da_cons (de_var (pv 2)) (da_cons (de_ix rfl (DE.toR (de_var (pv 3))) (DE.toR (de_var (pv 4))) (fun _ _ => rfl)) (da_nil) rfl) rfl)) (by decide) (fun _ => rfl) rfl)) (dss_nil))
def N_are_free : List Str := ["rows", "row", "one", "left", "right"]
theorem sc_are_free : FnScope N_are_free ["rows", "row"] (defScope (top 57)) := ⟨rfl, rfl, rfl, by decide +kernel, rfl, by decide +kernel, by decide +kernel⟩
def S_are_free : SemS := sSeq (sRet (dNotV (dBi bAny (dCons (dLc2 [2, 3, 4] (dItems (dV 0)) (tgName 2) (dTrue) (dZip (dCons (dV 2) (dCons (dV 1) (dNil)))) [3, 4] (tgTup 2 (tgsCons (tgName 3) (tgsCons (tgName 4) (tgsNil)))) (dTrue) (dEq eqT false (dV 3) (dV 4))) (dNil))))) (sNext)
def F_are_free : Fn := runB 5 (S_are_free)
theorem ok_are_free (B : Bn) : B.Ok ("are_free", none) 3 2 (F_are_free) := by
  obtain ⟨fd, F⟩ := B.say.def_ (d := dd_are_free) 62 rfl
  exact Bun.ok (k := 2) (N := N_are_free) (ps := ["rows", "row"]) (S := S_are_free) F sc_are_free (fun _ _ _ _ _ _ us hl => match us, hl with | [_, _], _ => rfl) fun da me cdv A outer s H E i => (show DSs (B.G da me) (B.X N_are_free dd_are_free.qual dd_are_free.scope (He.fAd B.K ("are_free", none)) cdv A outer s H E) (defBody (top 57)) (S_are_free) from dss_cons (ds_ret (de_not rfl (DE.toR (de_callB (cr_any rfl) bAny_ok rfl (Bun.free 56 rfl) (by decide +kernel) (dra_cons (DE.toR (de_lc2 rfl sc_are_free.nd (vs := [3, 4]) (di_seq rfl (de_var (pv 0))) (blkOk_by (own := [("one", 2), ("left", 3), ("right", 4)]) rfl) (by decide) (fun _ _ _ _ _ => dg_name (pg_name sc_are_free.nd rfl (by first | exact Or.inl rfl | exact Or.inr rfl) (by first | exact .inl rfl | exact .inr rfl))) (fun _ _ _ _ _ => dts_nil) (fun _ _ _ _ _ => di_zip rfl rfl (Bun.free 58 rfl) (da_cons (de_var (pv 2)) (da_cons (de_var (pv 1)) (da_nil) rfl) rfl) (fun h => RZ.pi_zipA rfl (Bun.free 58 rfl) h)) (fun _ _ _ _ _ => dg_tup rfl rfl (dgs_cons (dg_name (pg_name sc_are_free.nd rfl (by first | exact Or.inl rfl | exact Or.inr rfl) (by first | exact .inl rfl | exact .inr rfl))) (dgs_cons (dg_name (pg_name sc_are_free.nd rfl (by first | exact Or.inl rfl | exact Or.inr rfl) (by first | exact .inl rfl | exact .inr rfl))) (dgs_nil) rfl) rfl) rfl rfl) (fun _ _ _ _ _ => dts_nil) (fun _ _ _ _ _ => de_eq rfl Bun.kit (Bun.eqOk (eqRow B (by decide)) i.blk) i.blk.room.units (DE.toR (de_var (pv 3))) (de_var (pv 4)) rfl) (by decide) (by decide) gd_name (fun _ => rfl) (fun _ _ => rfl) rfl)) (dra_nil) rfl) (by decide) rfl rfl rfl)))) (dss_nil))
def N__law_number : List Str := ["script", "index", "cell", "turn", "rest", "step", "blend"]
theorem sc__law_number : FnScope N__law_number ["script", "index"] (defScope (top 60)) := ⟨rfl, rfl, rfl, by decide +kernel, rfl, by decide +kernel, by decide +kernel⟩
def S__law_number (ns : List Int) : SemS := sSeq (sAsg (dIf (dNeS ns (dV 0)) (dTup (dCons (dIxS ns (dV 0) (dBin D.mod (dV 1) (dLenS ns (dV 0)))) (dCons (dBin D.fdiv (dV 1) (dLenS ns (dV 0))) (dNil)))) (dTup (dCons (dC (.int 12345)) (dCons (dC (.int 0)) (dNil))))) (tgTup 2 (tgsCons (tgName 2) (tgsCons (tgName 3) (tgsNil))))) (sSeq (sAsg (dIf (dBinB cLt (dV 3) (dC (.int 60))) (dBin D.sub (dV 2) (dPow 10 18)) (dC (.int 0))) (tgName 4)) (sSeq (sFor (dRng (dCons (dBin D.mod (dBi bInt (dCons (dV 3) (dNil))) (dC (.int 60))) dNil)) (tgName 5) (sSeq (sAsg (dBin D.fdiv (dV 4) (dC (.int 1009))) (tgName 4)) (sNext))) (sSeq (sIf (dBinB cGtA (dV 4) (dC (.int 0))) (sSeq (sRet (dBin D.mod (dBi bInt (dCons (dV 4) (dNil))) (dC (.int 1009)))) (sNext)) (sNext)) (sSeq (sAsg (dBin D.mod (dBin D.add (dBin D.mul (dBi bInt (dCons (dBin D.add (dV 2) (dBin D.mul (dC (.int 977)) (dV 1))) (dNil))) (dC (.int 48271))) (dBin D.mul (dC (.int 31)) (dLenS ns (dV 0)))) (dC (.int 2147483647))) (tgName 6)) (sSeq (sAsg (dBin D.mod (dBin D.add (dBin D.mul (dV 6) (dV 6)) (dBin D.mul (dC (.int 40503)) (dV 1))) (dC (.int 2147483629))) (tgName 6)) (sSeq (sRet (dBi bInt (dCons (dBin D.mod (dBin D.add (dBin D.mul (dV 6) (dC (.int 69621))) (dBin D.fdiv (dV 6) (dC (.int 977)))) (dC (.int 2147483587))) (dNil)))) (sNext)))))))
def F__law_number (ns : List Int) : Fn := runB 7 (S__law_number ns)
theorem ok__law_number (B : Bn) : B.Ok ("_law_number", none) 1 2 (F__law_number B.ns) := by
  obtain ⟨fd, F⟩ := B.say.def_ (d := dd__law_number) 64 rfl
  exact Bun.ok (k := 0) (N := N__law_number) (ps := ["script", "index"]) (S := S__law_number B.ns) F sc__law_number (fun _ _ _ _ _ _ us hl => match us, hl with | [_, _], _ => rfl) fun da me cdv A outer s H E i => (show DSs (B.G da me) (B.X N__law_number dd__law_number.qual dd__law_number.scope (He.fAd B.K ("_law_number", none)) cdv A outer s H E) (defBody (top 60)) (S__law_number B.ns) from dss_cons (ds_asg (de_if (dt_neS rfl rfl i.room.units (de_var (pv 0)) rfl) (de_tup (da_cons (de_ixS rfl rfl (de_var (pv 0)) (de_op op_mod rd_mod (DE.toR (de_var (pv 1))) (DE.toR (de_lenS rfl rfl rfl (Bun.free 54 rfl) (de_var (pv 0)) rfl rfl))) (fun _ _ => rfl)) (da_cons (de_op op_fdivW rd_fdiv (DE.toR (de_var (pv 1))) (DE.toR (de_lenS rfl rfl rfl (Bun.free 54 rfl) (de_var (pv 0)) rfl rfl))) (da_nil) rfl) rfl)) (de_tup (da_cons (de_const pe_int (fun _ => Rep.int _)) (da_cons (de_const pe_int (fun _ => Rep.int _)) (da_nil) rfl) rfl))) (dg_tup rfl rfl (dgs_cons (dg_name (pg_name sc__law_number.nd rfl (by first | exact Or.inl rfl | exact Or.inr rfl) (by first | exact .inl rfl | exact .inr rfl))) (dgs_cons (dg_name (pg_name sc__law_number.nd rfl (by first | exact Or.inl rfl | exact Or.inr rfl) (by first | exact .inl rfl | exact .inr rfl))) (dgs_nil) rfl) rfl) rfl rfl) rfl rfl rfl) (dss_cons (ds_asg (de_if (dc_test op_lt rd_lt (DE.toR (de_var (pv 3))) (DE.toR (de_const pe_int (fun _ => Rep.int _))) rfl) (de_op op_sub rd_sub (DE.toR (de_var (pv 2))) (DE.toR (de_pow ⟨by decide, by decide, by decide⟩))) (de_const pe_int (fun _ => Rep.int _))) (dg_name (pg_name sc__law_number.nd rfl (by first | exact Or.inl rfl | exact Or.inr rfl) (by first | exact .inl rfl | exact .inr rfl))) rfl rfl rfl) (dss_cons (ds_for PassesOwn.never rfl (di_range1 rfl (Bun.free 60 rfl) (de_op op_mod rd_mod (DE.toR (de_callT call_int1 bInt_ok rfl (Bun.free 67 rfl) (by decide +kernel) (dra_cons (DE.toR (de_var (pv 3))) (dra_nil) rfl) (by decide) rfl rfl rfl)) (DE.toR (de_const pe_int (fun _ => Rep.int _)))) rfl) (dg_name (pg_name sc__law_number.nd rfl (by first | exact Or.inl rfl | exact Or.inr rfl) (by first | exact .inl rfl | exact .inr rfl))) (dss_cons (ds_asg (de_op op_fdivW rd_fdiv (DE.toR (de_var (pv 4))) (DE.toR (de_const pe_int (fun _ => Rep.int _)))) (dg_name (pg_name sc__law_number.nd rfl (by first | exact Or.inl rfl | exact Or.inr rfl) (by first | exact .inl rfl | exact .inr rfl))) rfl rfl rfl) (dss_nil)) (fun _ => rfl)) (dss_cons (ds_if (dc_test (op_gtA i.room.units0) rd_gtA (DE.toR (de_var (pv 4))) (DE.toR (de_const pe_int (fun _ => Rep.int _))) rfl) (dss_cons (ds_ret (de_op op_mod rd_mod (DE.toR (de_callT call_int1 bInt_ok rfl (Bun.free 67 rfl) (by decide +kernel) (dra_cons (DE.toR (de_var (pv 4))) (dra_nil) rfl) (by decide) rfl rfl rfl)) (DE.toR (de_const pe_int (fun _ => Rep.int _))))) (dss_nil)) (dss_nil)) (dss_cons (ds_asg (de_op op_mod rd_mod (DE.toR (de_op op_addD rd_add (DE.toR (de_op op_mulX rd_mul (DE.toR (de_callT call_int1 bInt_ok rfl (Bun.free 67 rfl) (by decide +kernel) (dra_cons (DE.toR (de_op op_addD rd_add (DE.toR (de_var (pv 2))) (DE.toR (de_op op_mulX rd_mul (DE.toR (de_const pe_int (fun _ => Rep.int _))) (DE.toR (de_var (pv 1))))))) (dra_nil) rfl) (by decide) rfl rfl rfl)) (DE.toR (de_const pe_int (fun _ => Rep.int _))))) (DE.toR (de_op op_mulX rd_mul (DE.toR (de_const pe_int (fun _ => Rep.int _))) (DE.toR (de_lenS rfl rfl rfl (Bun.free 54 rfl) (de_var (pv 0)) rfl rfl)))))) (DE.toR (de_const pe_int (fun _ => Rep.int _)))) (dg_name (pg_name sc__law_number.nd rfl (by first | exact Or.inl rfl | exact Or.inr rfl) (by first | exact .inl rfl | exact .inr rfl))) rfl rfl rfl) (dss_cons (ds_asg (de_op op_mod rd_mod (DE.toR (de_op op_addD rd_add (DE.toR (de_op op_mulX rd_mul (DE.toR (de_var (pv 6))) (DE.toR (de_var (pv 6))))) (DE.toR (de_op op_mulX rd_mul (DE.toR (de_const pe_int (fun _ => Rep.int _))) (DE.toR (de_var (pv 1))))))) (DE.toR (de_const pe_int (fun _ => Rep.int _)))) (dg_name (pg_name sc__law_number.nd rfl (by first | exact Or.inl rfl | exact Or.inr rfl) (by first | exact .inl rfl | exact .inr rfl))) rfl rfl rfl) (dss_cons (ds_ret (de_callT call_int1 bInt_ok rfl (Bun.free 67 rfl) (by decide +kernel) (dra_cons (DE.toR (de_op op_mod rd_mod (DE.toR (de_op op_addD rd_add (DE.toR (de_op op_mulX rd_mul (DE.toR (de_var (pv 6))) (DE.toR (de_const pe_int (fun _ => Rep.int _))))) (DE.toR (de_op op_fdivW rd_fdiv (DE.toR (de_var (pv 6))) (DE.toR (de_const pe_int (fun _ => Rep.int _))))))) (DE.toR (de_const pe_int (fun _ => Rep.int _))))) (dra_nil) rfl) (by decide) rfl rfl rfl)) (dss_nil))))))))
def N__law_take : List Str := ["draw", "many"]
theorem sc__law_take : FnScope N__law_take ["draw", "many"] (defScope (top 61)) := ⟨rfl, rfl, rfl, by decide +kernel, rfl, by decide +kernel, by decide +kernel⟩
def S__law_take (ns : List Int) : SemS := sSeq (sInc 0) (sSeq (sRet (dBin D.mod (dBi bInt (dCons (dCall 2 (F__law_number ns) (dCons (dDrw0 (dV 0)) (dCons (dBi bInt (dCons (dDrw1 (dV 0)) (dNil))) (dNil)))) (dNil))) (dV 1))) (sNext))
def F__law_take (ns : List Int) : Fn := runB 2 (S__law_take ns)
theorem ok__law_take (B : Bn) : B.Ok ("_law_take", none) 2 2 (F__law_take B.ns) := by
  obtain ⟨fd, F⟩ := B.say.def_ (d := dd__law_take) 65 rfl
  exact Bun.ok (k := 1) (N := N__law_take) (ps := ["draw", "many"]) (S := S__law_take B.ns) F sc__law_take (fun _ _ _ _ _ _ us hl => match us, hl with | [_, _], _ => rfl) fun da me cdv A outer s H E i => (show DSs (B.G da me) (B.X N__law_take dd__law_take.qual dd__law_take.scope (He.fAd B.K ("_law_take", none)) cdv A outer s H E) (defBody (top 61)) (S__law_take B.ns) from dss_cons (ds_inc (pv 0)) (dss_cons (ds_ret (de_op op_mod rd_mod (DE.toR (de_callT call_int1 bInt_ok rfl (Bun.free 67 rfl) (by decide +kernel) (dra_cons (DE.toR (de_call (Bun.call (ok__law_number B) i (by decide) (Bun.glo 41 rfl)) rfl (da_cons (de_drw0 rfl (de_var (pv 0)) (fun _ _ => rfl)) (da_cons (de_callT call_int1 bInt_ok rfl (Bun.free 67 rfl) (by decide +kernel) (dra_cons (DE.toR (de_drw1 rfl (de_var (pv 0)) (fun _ _ => rfl))) (dra_nil) rfl) (by decide) rfl rfl rfl) (da_nil) rfl) rfl) rfl rfl rfl)) (dra_nil) rfl) (by decide) rfl rfl rfl)) (DE.toR (de_var (pv 1))))) (dss_nil)))
def N__law_pick : List Str := ["draw", "items"]
theorem sc__law_pick : FnScope N__law_pick ["draw", "items"] (defScope (top 62)) := ⟨rfl, rfl, rfl, by decide +kernel, rfl, by decide +kernel, by decide +kernel⟩
def S__law_pick (ns : List Int) : SemS := sSeq (sRet (dBin D.ix (dV 1) (dCall 2 (F__law_take ns) (dCons (dV 0) (dCons (dBi bLen (dCons (dV 1) (dNil))) (dNil)))))) (sNext)
def F__law_pick (ns : List Int) : Fn := runB 2 (S__law_pick ns)
theorem ok__law_pick (B : Bn) : B.Ok ("_law_pick", none) 3 2 (F__law_pick B.ns) := by
  obtain ⟨fd, F⟩ := B.say.def_ (d := dd__law_pick) 66 rfl
  exact Bun.ok (k := 2) (N := N__law_pick) (ps := ["draw", "items"]) (S := S__law_pick B.ns) F sc__law_pick (fun _ _ _ _ _ _ us hl => match us, hl with | [_, _], _ => rfl) fun da me cdv A outer s H E i => (show DSs (B.G da me) (B.X N__law_pick dd__law_pick.qual dd__law_pick.scope (He.fAd B.K ("_law_pick", none)) cdv A outer s H E) (defBody (top 62)) (S__law_pick B.ns) from dss_cons (ds_ret (de_ix rfl (DE.toR (de_var (pv 1))) (DE.toR (de_call (Bun.call (ok__law_take B) i (by decide) (Bun.glo 42 rfl)) rfl (da_cons (de_var (pv 0)) (da_cons (de_callB call_len bLen_ok rfl (Bun.free 54 rfl) (by decide +kernel) (dra_cons (DE.toR (de_var (pv 1))) (dra_nil) rfl) (by decide) rfl rfl rfl) (da_nil) rfl) rfl) rfl rfl rfl)) (fun _ _ => rfl))) (dss_nil))
def N__law_sky : List Str := ["draw", "rows", "row", "one"]
theorem sc__law_sky : FnScope N__law_sky ["draw"] (defScope (top 63)) := ⟨rfl, rfl, rfl, by decide +kernel, rfl, by decide +kernel, by decide +kernel⟩
def S__law_sky (ns : List Int) : SemS := sSeq (sAsg (dLst (dCons (dTup (dCons (dC (.int 1)) (dCons (dC (.int 0)) (dCons (dC (.int 0)) (dNil))))) (dCons (dTup (dCons (dC (.int 0)) (dCons (dC (.int 1)) (dCons (dC (.int 0)) (dNil))))) (dCons (dTup (dCons (dC (.int 0)) (dCons (dC (.int 0)) (dCons (dC (.int 1)) (dNil))))) (dCons (dTup (dCons (dC (.int 1)) (dCons (dC (.int 2)) (dCons (dC (.int 2)) (dNil))))) (dCons (dTup (dCons (dC (.int 2)) (dCons (dC (.int 1)) (dCons (dC (.int 2)) (dNil))))) (dCons (dTup (dCons (dC (.int 2)) (dCons (dC (.int 2)) (dCons (dC (.int 1)) (dNil))))) (dCons (dTup (dCons (dC (.int 3)) (dCons (dC (.int 0)) (dCons (dC (.int 4)) (dNil))))) (dCons (dTup (dCons (dC (.int 0)) (dCons (dC (.int 3)) (dCons (dC (.int 4)) (dNil))))) (dCons (dTup (dCons (dC (.int 4)) (dCons (dC (.int 3)) (dCons (dC (.int 0)) (dNil))))) (dCons (dTup (dCons (dC (.int 2)) (dCons (dC (.int 3)) (dCons (dC (.int 6)) (dNil))))) (dCons (dTup (dCons (dC (.int 6)) (dCons (dC (.int 2)) (dCons (dC (.int 3)) (dNil))))) (dCons (dTup (dCons (dC (.int 1)) (dCons (dC (.int 4)) (dCons (dC (.int 8)) (dNil))))) (dCons (dTup (dCons (dC (.int 1)) (dCons (dC (.int 1)) (dCons (dC (.int 0)) (dNil))))) (dCons (dTup (dCons (dC (.int 1)) (dCons (dC (.int 1)) (dCons (dC (.int 1)) (dNil))))) (dNil)))))))))))))))) (tgName 1)) (sSeq (sAsg (dIf (dBinB cGtA (dCall 2 (F__law_take ns) (dCons (dV 0) (dCons (dC (.int 8)) (dNil)))) (dC (.int 0))) (dBin D.ix (dV 1) (dCall 2 (F__law_take ns) (dCons (dV 0) (dCons (dC (.int 12)) (dNil))))) (dCall 2 (F__law_pick ns) (dCons (dV 0) (dCons (dV 1) (dNil))))) (tgName 2)) (sSeq (sRet (dBi bTup (dCons (dLc [3] (dItems (dV 2)) (tgName 3) (dTrue) (dIf (dEqB eqT false (dCall 2 (F__law_take ns) (dCons (dV 0) (dCons (dC (.int 2)) (dNil)))) (dC (.int 0))) (dV 3) (dBin D.sub (dC (.int 0)) (dV 3)))) (dNil)))) (sNext)))
def F__law_sky (ns : List Int) : Fn := runB 4 (S__law_sky ns)
theorem ok__law_sky (B : Bn) : B.Ok ("_law_sky", none) 4 1 (F__law_sky B.ns) := by
  obtain ⟨fd, F⟩ := B.say.def_ (d := dd__law_sky) 67 rfl
  exact Bun.ok (k := 3) (N := N__law_sky) (ps := ["draw"]) (S := S__law_sky B.ns) F sc__law_sky (fun _ _ _ _ _ _ us hl => match us, hl with | [_], _ => rfl) fun da me cdv A outer s H E i => (show DSs (B.G da me) (B.X N__law_sky dd__law_sky.qual dd__law_sky.scope (He.fAd B.K ("_law_sky", none)) cdv A outer s H E) (defBody (top 63)) (S__law_sky B.ns) from dss_cons (ds_asg (de_lst (da_cons (de_tup (da_cons (de_const pe_int (fun _ => Rep.int _)) (da_cons (de_const pe_int (fun _ => Rep.int _)) (da_cons (de_const pe_int (fun _ => Rep.int _)) (da_nil) rfl) rfl) rfl)) (da_cons (de_tup (da_cons (de_const pe_int (fun _ => Rep.int _)) (da_cons (de_const pe_int (fun _ => Rep.int _)) (da_cons (de_const pe_int (fun _ => Rep.int _)) (da_nil) rfl) rfl) rfl)) (da_cons (de_tup (da_cons (de_const pe_int (fun _ => Rep.int _)) (da_cons (de_const pe_int (fun _ => Rep.int _)) (da_cons (de_const pe_int (fun _ => Rep.int _)) (da_nil) rfl) rfl) rfl)) (da_cons (de_tup (da_cons (de_const pe_int (fun _ => Rep.int _)) (da_cons (de_const pe_int (fun _ => Rep.int _)) (da_cons (de_const pe_int (fun _ => Rep.int _)) (da_nil) rfl) rfl) rfl)) (da_cons (de_tup (da_cons (de_const pe_int (fun _ => Rep.int _)) (da_cons (de_const pe_int (fun _ => Rep.int _)) (da_cons (de_const pe_int (fun _ => Rep.int _)) (da_nil) rfl) rfl) rfl)) (da_cons (de_tup (da_cons (de_const pe_int (fun _ => Rep.int _)) (da_cons (de_const pe_int (fun _ => Rep.int _)) (da_cons (de_const pe_int (fun _ => Rep.int _)) (da_nil) rfl) rfl) rfl)) (da_cons (de_tup (da_cons (de_const pe_int (fun _ => Rep.int _)) (da_cons (de_const pe_int (fun _ => Rep.int _)) (da_cons (de_const pe_int (fun _ => Rep.int _)) (da_nil) rfl) rfl) rfl)) (da_cons (de_tup (da_cons (de_const pe_int (fun _ => Rep.int _)) (da_cons (de_const pe_int (fun _ => Rep.int _)) (da_cons (de_const pe_int (fun _ => Rep.int _)) (da_nil) rfl) rfl) rfl)) (da_cons (de_tup (da_cons (de_const pe_int (fun _ => Rep.int _)) (da_cons (de_const pe_int (fun _ => Rep.int _)) (da_cons (de_const pe_int (fun _ => Rep.int _)) (da_nil) rfl) rfl) rfl)) (da_cons (de_tup (da_cons (de_const pe_int (fun _ => Rep.int _)) (da_cons (de_const pe_int (fun _ => Rep.int _)) (da_cons (de_const pe_int (fun _ => Rep.int _)) (da_nil) rfl) rfl) rfl)) (da_cons (de_tup (da_cons (de_const pe_int (fun _ => Rep.int _)) (da_cons (de_const pe_int (fun _ => Rep.int _)) (da_cons (de_const pe_int (fun _ => Rep.int _)) (da_nil) rfl) rfl) rfl)) (da_cons (de_tup (da_cons (de_const pe_int (fun _ => Rep.int _)) (da_cons (de_const pe_int (fun _ => Rep.int _)) (da_cons (de_const pe_int (fun _ => Rep.int _)) (da_nil) rfl) rfl) rfl)) (da_cons (de_tup (da_cons (de_const pe_int (fun _ => Rep.int _)) (da_cons (de_const pe_int (fun _ => Rep.int _)) (da_cons (de_const pe_int (fun _ => Rep.int _)) (da_nil) rfl) rfl) rfl)) (da_cons (de_tup (da_cons (de_const pe_int (fun _ => Rep.int _)) (da_cons (de_const pe_int (fun _ => Rep.int _)) (da_cons (de_const pe_int (fun _ => Rep.int _)) (da_nil) rfl) rfl) rfl)) (da_nil) rfl) rfl) rfl) rfl) rfl) rfl) rfl) rfl) rfl) rfl) rfl) rfl) rfl) rfl)) (dg_name (pg_name sc__law_sky.nd rfl (by first | exact Or.inl rfl | exact Or.inr rfl) (by first | exact .inl rfl | exact .inr rfl))) rfl rfl rfl) (dss_cons (ds_asg (de_if (dc_test (op_gtA i.room.units0) rd_gtA (DE.toR (de_call (Bun.call (ok__law_take B) i (by decide) (Bun.glo 42 rfl)) rfl (da_cons (de_var (pv 0)) (da_cons (de_const pe_int (fun _ => Rep.int _)) (da_nil) rfl) rfl) rfl rfl rfl)) (DE.toR (de_const pe_int (fun _ => Rep.int _))) rfl) (de_ix rfl (DE.toR (de_var (pv 1))) (DE.toR (de_call (Bun.call (ok__law_take B) i (by decide) (Bun.glo 42 rfl)) rfl (da_cons (de_var (pv 0)) (da_cons (de_const pe_int (fun _ => Rep.int _)) (da_nil) rfl) rfl) rfl rfl rfl)) (fun _ _ => rfl)) (de_call (Bun.call (ok__law_pick B) i (by decide) (Bun.glo 43 rfl)) rfl (da_cons (de_var (pv 0)) (da_cons (de_var (pv 1)) (da_nil) rfl) rfl) rfl rfl rfl)) (dg_name (pg_name sc__law_sky.nd rfl (by first | exact Or.inl rfl | exact Or.inr rfl) (by first | exact .inl rfl | exact .inr rfl))) rfl rfl rfl) (dss_cons (ds_ret (de_callT call_tuple_of bTup_ok rfl (Bun.free 61 rfl) (by decide +kernel) (dra_cons (DE.toR (de_lc rfl sc__law_sky.nd (di_seq rfl (de_var (pv 2))) (blkOk_by (own := [("one", 3)]) rfl) (fun _ _ _ _ _ => dg_name (pg_name sc__law_sky.nd rfl (by first | exact Or.inl rfl | exact Or.inr rfl) (by first | exact .inl rfl | exact .inr rfl))) (fun _ _ _ _ _ => dts_nil) (fun _ _ _ _ _ => de_if (dt_eq rfl Bun.kit (Bun.eqOk (eqRow B (by decide)) i.blk) i.blk.room.units (DE.toR (de_call (Bun.call (ok__law_take B) i.blk (by decide) (Bun.glo 42 rfl)) rfl (da_cons (de_var (pv 0)) (da_cons (de_const pe_int (fun _ => Rep.int _)) (da_nil) rfl) rfl) rfl rfl rfl)) (de_const pe_int (fun _ => Rep.int _)) rfl) (de_var (pv 3)) (de_op op_sub rd_sub (DE.toR (de_const pe_int (fun _ => Rep.int _))) (DE.toR (de_var (pv 3))))) (by decide) (fun _ => rfl) rfl)) (dra_nil) rfl) (by decide) rfl rfl rfl)) (dss_nil))))
def N__law_way : List Str := ["draw", "start", "step", "again"]
theorem sc__law_way : FnScope N__law_way ["draw"] (defScope (top 64)) := ⟨rfl, rfl, rfl, by decide +kernel, rfl, by decide +kernel, by decide +kernel⟩
def S__law_way (ns : List Int) : SemS := sSeq (sAsg (dBi bTup (dCons (dLc [3] (dRng (dCons (dC (.int 3)) dNil)) (tgName 3) (dTrue) (dBin D.sub (dCall 2 (F__law_take ns) (dCons (dV 0) (dCons (dC (.int 9)) (dNil)))) (dC (.int 4)))) (dNil))) (tgName 1)) (sSeq (sAsg (dBi bTup (dCons (dLc [3] (dRng (dCons (dC (.int 3)) dNil)) (tgName 3) (dTrue) (dBin D.sub (dCall 2 (F__law_take ns) (dCons (dV 0) (dCons (dC (.int 5)) (dNil)))) (dC (.int 2)))) (dNil))) (tgName 2)) (sSeq (sRet (dTup (dCons (dV 1) (dCons (dV 2) (dNil))))) (sNext)))
def F__law_way (ns : List Int) : Fn := runB 4 (S__law_way ns)
theorem ok__law_way (B : Bn) : B.Ok ("_law_way", none) 3 1 (F__law_way B.ns) := by
  obtain ⟨fd, F⟩ := B.say.def_ (d := dd__law_way) 68 rfl
  exact Bun.ok (k := 2) (N := N__law_way) (ps := ["draw"]) (S := S__law_way B.ns) F sc__law_way (fun _ _ _ _ _ _ us hl => match us, hl with | [_], _ => rfl) fun da me cdv A outer s H E i => (show DSs (B.G da me) (B.X N__law_way dd__law_way.qual dd__law_way.scope (He.fAd B.K ("_law_way", none)) cdv A outer s H E) (defBody (top 64)) (S__law_way B.ns) from dss_cons (ds_asg (de_callT call_tuple_of bTup_ok rfl (Bun.free 61 rfl) (by decide +kernel) (dra_cons (DE.toR (de_lc rfl sc__law_way.nd (di_range1 rfl (Bun.free 60 rfl) (de_const pe_int (fun _ => Rep.int _)) rfl) (blkOk_by (own := [("again", 3)]) rfl) (fun _ _ _ _ _ => dg_name (pg_name sc__law_way.nd rfl (by first | exact Or.inl rfl | exact Or.inr rfl) (by first | exact .inl rfl | exact .inr rfl))) (fun _ _ _ _ _ => dts_nil) (fun _ _ _ _ _ => de_op op_sub rd_sub (DE.toR (de_call (Bun.call (ok__law_take B) i.blk (by decide) (Bun.glo 42 rfl)) rfl (da_cons (de_var (pv 0)) (da_cons (de_const pe_int (fun _ => Rep.int _)) (da_nil) rfl) rfl) rfl rfl rfl)) (DE.toR (de_const pe_int (fun _ => Rep.int _)))) (by decide) (fun _ => rfl) rfl)) (dra_nil) rfl) (by decide) rfl rfl rfl) (dg_name (pg_name sc__law_way.nd rfl (by first | exact Or.inl rfl | exact Or.inr rfl) (by first | exact .inl rfl | exact .inr rfl))) rfl rfl rfl) (dss_cons (ds_asg (de_callT call_tuple_of bTup_ok rfl (Bun.free 61 rfl) (by decide +kernel) (dra_cons (DE.toR (de_lc rfl sc__law_way.nd (di_range1 rfl (Bun.free 60 rfl) (de_const pe_int (fun _ => Rep.int _)) rfl) (blkOk_by (own := [("again", 3)]) rfl) (fun _ _ _ _ _ => dg_name (pg_name sc__law_way.nd rfl (by first | exact Or.inl rfl | exact Or.inr rfl) (by first | exact .inl rfl | exact .inr rfl))) (fun _ _ _ _ _ => dts_nil) (fun _ _ _ _ _ => de_op op_sub rd_sub (DE.toR (de_call (Bun.call (ok__law_take B) i.blk (by decide) (Bun.glo 42 rfl)) rfl (da_cons (de_var (pv 0)) (da_cons (de_const pe_int (fun _ => Rep.int _)) (da_nil) rfl) rfl) rfl rfl rfl)) (DE.toR (de_const pe_int (fun _ => Rep.int _)))) (by decide) (fun _ => rfl) rfl)) (dra_nil) rfl) (by decide) rfl rfl rfl) (dg_name (pg_name sc__law_way.nd rfl (by first | exact Or.inl rfl | exact Or.inr rfl) (by first | exact .inl rfl | exact .inr rfl))) rfl rfl rfl) (dss_cons (ds_ret (de_tup (da_cons (de_var (pv 1)) (da_cons (de_var (pv 2)) (da_nil) rfl) rfl))) (dss_nil))))
def N_at_night : List Str := ["way", "night"]
theorem sc_at_night : FnScope N_at_night ["way", "night"] (defScope (top 33)) := ⟨rfl, rfl, rfl, by decide +kernel, rfl, by decide +kernel, by decide +kernel⟩
def S_at_night : SemS := sSeq (sDrop (dCall 1 F_check_way (dCons (dV 0) (dNil)))) (sSeq (sDrop (dCall 4 F_check_number (dCons (dC (.str "night")) (dCons (dV 1) (dCons (dC (.int 0)) (dCons (dC (.int 99)) (dNil))))))) (sSeq (sRet (dCall 2 F_plus (dCons (dBin D.ix (dV 0) (dC (.int 0))) (dCons (dCall 2 F_times (dCons (dV 1) (dCons (dBin D.ix (dV 0) (dC (.int 1))) (dNil)))) (dNil))))) (sNext)))
def F_at_night : Fn := runB 2 (S_at_night)
theorem ok_at_night (B : Bn) : B.Ok ("at_night", none) 5 2 (F_at_night) := by
  obtain ⟨fd, F⟩ := B.say.def_ (d := dd_at_night) 33 rfl
  exact Bun.ok (k := 4) (N := N_at_night) (ps := ["way", "night"]) (S := S_at_night) F sc_at_night (fun _ _ _ _ _ _ us hl => match us, hl with | [_, _], _ => rfl) fun da me cdv A outer s H E i => (show DSs (B.G da me) (B.X N_at_night dd_at_night.qual dd_at_night.scope (He.fAd B.K ("at_night", none)) cdv A outer s H E) (defBody (top 33)) (S_at_night) from dss_cons (ds_expr (de_call (Bun.call (ok_check_way B) i (by decide) (Bun.glo 23 rfl)) rfl (da_cons (de_var (pv 0)) (da_nil) rfl) rfl rfl rfl) rfl) (dss_cons (ds_expr (de_call (Bun.call (ok_check_number B) i (by decide) (Bun.glo 3 rfl)) rfl (da_cons (de_const pe_str (fun _ => Rep.str _)) (da_cons (de_var (pv 1)) (da_cons (de_const pe_int (fun _ => Rep.int _)) (da_cons (de_int (He.int_ok B.hIn B.hNs (B.say.fact 94 rfl)) rfl) (da_nil) rfl) rfl) rfl) rfl) rfl rfl rfl) rfl) (dss_cons (ds_ret (de_call (Bun.call (ok_plus B) i (by decide) (Bun.glo 14 rfl)) rfl (da_cons (de_ix rfl (DE.toR (de_var (pv 0))) (DE.toR (de_const pe_int (fun _ => Rep.int _))) (fun _ _ => rfl)) (da_cons (de_call (Bun.call (ok_times B) i (by decide) (Bun.glo 15 rfl)) rfl (da_cons (de_var (pv 1)) (da_cons (de_ix rfl (DE.toR (de_var (pv 0))) (DE.toR (de_const pe_int (fun _ => Rep.int _))) (fun _ _ => rfl)) (da_nil) rfl) rfl) rfl rfl rfl) (da_nil) rfl) rfl) rfl rfl rfl)) (dss_nil))))
def N_seen : List Str := ["way", "night", "found"]
theorem sc_seen : FnScope N_seen ["way", "night"] (defScope (top 34)) := ⟨rfl, rfl, rfl, by decide +kernel, rfl, by decide +kernel, by decide +kernel⟩
def S_seen : SemS := sSeq (sDrop (dCall 1 F_check_way (dCons (dV 0) (dNil)))) (sSeq (sDrop (dCall 4 F_check_number (dCons (dC (.str "night")) (dCons (dV 1) (dCons (dC (.int 0)) (dCons (dC (.int 99)) (dNil))))))) (sSeq (sAsg (dCall 2 F_at_night (dCons (dV 0) (dCons (dV 1) (dNil)))) (tgName 2)) (sSeq (sRet (dIf (dEqB eqT false (dV 2) (dTup (dCons (dC (.int 0)) (dCons (dC (.int 0)) (dCons (dC (.int 0)) (dNil)))))) (dC .non) (dCall 1 F_least (dCons (dV 2) (dNil))))) (sNext))))
def F_seen : Fn := runB 3 (S_seen)
theorem ok_seen (B : Bn) : B.Ok ("seen", none) 6 2 (F_seen) := by
  obtain ⟨fd, F⟩ := B.say.def_ (d := dd_seen) 34 rfl
  exact Bun.ok (k := 5) (N := N_seen) (ps := ["way", "night"]) (S := S_seen) F sc_seen (fun _ _ _ _ _ _ us hl => match us, hl with | [_, _], _ => rfl) fun da me cdv A outer s H E i => (show DSs (B.G da me) (B.X N_seen dd_seen.qual dd_seen.scope (He.fAd B.K ("seen", none)) cdv A outer s H E) (defBody (top 34)) (S_seen) from dss_cons (ds_expr (de_call (Bun.call (ok_check_way B) i (by decide) (Bun.glo 23 rfl)) rfl (da_cons (de_var (pv 0)) (da_nil) rfl) rfl rfl rfl) rfl) (dss_cons (ds_expr (de_call (Bun.call (ok_check_number B) i (by decide) (Bun.glo 3 rfl)) rfl (da_cons (de_const pe_str (fun _ => Rep.str _)) (da_cons (de_var (pv 1)) (da_cons (de_const pe_int (fun _ => Rep.int _)) (da_cons (de_int (He.int_ok B.hIn B.hNs (B.say.fact 94 rfl)) rfl) (da_nil) rfl) rfl) rfl) rfl) rfl rfl rfl) rfl) (dss_cons (ds_asg (de_call (Bun.call (ok_at_night B) i (by decide) (Bun.glo 21 rfl)) rfl (da_cons (de_var (pv 0)) (da_cons (de_var (pv 1)) (da_nil) rfl) rfl) rfl rfl rfl) (dg_name (pg_name sc_seen.nd rfl (by first | exact Or.inl rfl | exact Or.inr rfl) (by first | exact .inl rfl | exact .inr rfl))) rfl rfl rfl) (dss_cons (ds_ret (de_if (dt_eq rfl Bun.kit (Bun.eqOk (eqRow B (by decide)) i) i.room.units (DE.toR (de_var (pv 2))) (de_tup (da_cons (de_const pe_int (fun _ => Rep.int _)) (da_cons (de_const pe_int (fun _ => Rep.int _)) (da_cons (de_const pe_int (fun _ => Rep.int _)) (da_nil) rfl) rfl) rfl)) rfl) (de_const pe_non (fun _ => Rep.non)) (de_call (Bun.call (ok_least B) i (by decide) (Bun.glo 9 rfl)) rfl (da_cons (de_var (pv 2)) (da_nil) rfl) rfl rfl rfl))) (dss_nil)))))
def N_is_seen : List Str := ["way", "sightings", "night", "direction", "found", "first", "last"]
theorem sc_is_seen : FnScope N_is_seen ["way", "sightings"] (defScope (top 36)) := ⟨rfl, rfl, rfl, by decide +kernel, rfl, by decide +kernel, by decide +kernel⟩
def S_is_seen : SemS := sSeq (sDrop (dCall 1 F_check_way (dCons (dV 0) (dNil)))) (sSeq (sDrop (dCall 1 F_check_sightings (dCons (dV 1) (dNil)))) (sSeq (sFor (dItems (dV 1)) (tgTup 2 (tgsCons (tgName 2) (tgsCons (tgName 3) (tgsNil)))) (sSeq (sAsg (dCall 2 F_at_night (dCons (dV 0) (dCons (dV 2) (dNil)))) (tgName 4)) (sSeq (sIf (dOrB (dEqB eqT false (dV 4) (dTup (dCons (dC (.int 0)) (dCons (dC (.int 0)) (dCons (dC (.int 0)) (dNil)))))) (dEqB eqT true (dCall 1 F_least (dCons (dV 4) (dNil))) (dCall 1 F_least (dCons (dV 3) (dNil))))) (sSeq (sRet (dC (.bl false))) (sNext)) (sNext)) (sNext)))) (sSeq (sPar2 5 6 (dCall 2 F_at_night (dCons (dV 0) (dCons (dBin D.ix (dBin D.ix (dV 1) (dC (.int 0))) (dC (.int 0))) (dNil)))) (dCall 2 F_at_night (dCons (dV 0) (dCons (dBin D.ix (dBin D.ix (dV 1) (dUn D.neg (dC (.int 1)))) (dC (.int 0))) (dNil))))) (sSeq (sRet (dOrV (dNotV (dCall 2 F_is_on_line (dCons (dV 5) (dCons (dV 6) (dNil))))) (dBin (fun x y => (cGtA x y).map D.bl) (dCall 2 F_dot (dCons (dV 5) (dCons (dV 6) (dNil)))) (dC (.int 0))))) (sNext)))))
def F_is_seen : Fn := runB 7 (S_is_seen)
theorem ok_is_seen (B : Bn) : B.Ok ("is_seen", none) 6 2 (F_is_seen) := by
  obtain ⟨fd, F⟩ := B.say.def_ (d := dd_is_seen) 36 rfl
  exact Bun.ok (k := 5) (N := N_is_seen) (ps := ["way", "sightings"]) (S := S_is_seen) F sc_is_seen (fun _ _ _ _ _ _ us hl => match us, hl with | [_, _], _ => rfl) fun da me cdv A outer s H E i => (show DSs (B.G da me) (B.X N_is_seen dd_is_seen.qual dd_is_seen.scope (He.fAd B.K ("is_seen", none)) cdv A outer s H E) (defBody (top 36)) (S_is_seen) from dss_cons (ds_expr (de_call (Bun.call (ok_check_way B) i (by decide) (Bun.glo 23 rfl)) rfl (da_cons (de_var (pv 0)) (da_nil) rfl) rfl rfl rfl) rfl) (dss_cons (ds_expr (de_call (Bun.call (ok_check_sightings B) i (by decide) (Bun.glo 18 rfl)) rfl (da_cons (de_var (pv 1)) (da_nil) rfl) rfl rfl rfl) rfl) (dss_cons (ds_for PassesOwn.never rfl (di_seq rfl (de_var (pv 1))) (dg_tup rfl rfl (dgs_cons (dg_name (pg_name sc_is_seen.nd rfl (by first | exact Or.inl rfl | exact Or.inr rfl) (by first | exact .inl rfl | exact .inr rfl))) (dgs_cons (dg_name (pg_name sc_is_seen.nd rfl (by first | exact Or.inl rfl | exact Or.inr rfl) (by first | exact .inl rfl | exact .inr rfl))) (dgs_nil) rfl) rfl) rfl rfl) (dss_cons (ds_asg (de_call (Bun.call (ok_at_night B) i (by decide) (Bun.glo 21 rfl)) rfl (da_cons (de_var (pv 0)) (da_cons (de_var (pv 2)) (da_nil) rfl) rfl) rfl rfl rfl) (dg_name (pg_name sc_is_seen.nd rfl (by first | exact Or.inl rfl | exact Or.inr rfl) (by first | exact .inl rfl | exact .inr rfl))) rfl rfl rfl) (dss_cons (ds_if (PW.pt (dw_or (dt_eq rfl Bun.kit (Bun.eqOk (eqRow B (by decide)) i) i.room.units (DE.toR (de_var (pv 4))) (de_tup (da_cons (de_const pe_int (fun _ => Rep.int _)) (da_cons (de_const pe_int (fun _ => Rep.int _)) (da_cons (de_const pe_int (fun _ => Rep.int _)) (da_nil) rfl) rfl) rfl)) rfl) (dw_or1 (dt_ne rfl Bun.kit (Bun.eqOk (eqRow B (by decide)) i) i.room.units (DE.toR (de_call (Bun.call (ok_least B) i (by decide) (Bun.glo 9 rfl)) rfl (da_cons (de_var (pv 4)) (da_nil) rfl) rfl rfl rfl)) (de_call (Bun.call (ok_least B) i (by decide) (Bun.glo 9 rfl)) rfl (da_cons (de_var (pv 3)) (da_nil) rfl) rfl rfl rfl) rfl)))) (dss_cons (ds_ret (de_const pe_bl (fun _ => Rep.bl _))) (dss_nil)) (dss_nil)) (dss_nil))) (fun _ => rfl)) (dss_cons (ds_par2 (ps_par (i := 5) (j := 6) rfl sc_is_seen.nd rfl rfl (by decide) rfl rfl (da_cons (de_call (Bun.call (ok_at_night B) i (by decide) (Bun.glo 21 rfl)) rfl (da_cons (de_var (pv 0)) (da_cons (de_ix rfl (DE.toR (de_ix rfl (DE.toR (de_var (pv 1))) (DE.toR (de_const pe_int (fun _ => Rep.int _))) (fun _ _ => rfl))) (DE.toR (de_const pe_int (fun _ => Rep.int _))) (fun _ _ => rfl)) (da_nil) rfl) rfl) rfl rfl rfl) (da_cons (de_call (Bun.call (ok_at_night B) i (by decide) (Bun.glo 21 rfl)) rfl (da_cons (de_var (pv 0)) (da_cons (de_ix rfl (DE.toR (de_ix rfl (DE.toR (de_var (pv 1))) (DE.toR (de_neg (de_const pe_int (fun _ => Rep.int _)))) (fun _ _ => rfl))) (DE.toR (de_const pe_int (fun _ => Rep.int _))) (fun _ _ => rfl)) (da_nil) rfl) rfl) rfl rfl rfl) (da_nil) rfl) rfl) rfl rfl)) (dss_cons (ds_ret (de_or rfl (de_not rfl (DE.toR (de_call (Bun.call (ok_is_on_line B) i (by decide) (Bun.glo 16 rfl)) rfl (da_cons (de_var (pv 5)) (da_cons (de_var (pv 6)) (da_nil) rfl) rfl) rfl rfl rfl))) (de_one (dc_val (op_gtA i.room.units0) rd_gtA (DE.toR (de_call (Bun.call (ok_dot B) i (by decide) (Bun.glo 11 rfl)) rfl (da_cons (de_var (pv 5)) (da_cons (de_var (pv 6)) (da_nil) rfl) rfl) rfl rfl rfl)) (DE.toR (de_const pe_int (fun _ => Rep.int _))) rfl)))) (dss_nil))))))
def N_ways_by : List Str := ["sightings", "one", "other", "found", "middle", "normal", "near", "far"]
theorem sc_ways_by : FnScope N_ways_by ["sightings"] (defScope (top 38)) := ⟨rfl, rfl, rfl, by decide +kernel, rfl, by decide +kernel, by decide +kernel⟩
def S_ways_by : SemS := sSeq (sPar2 1 2 (dBin D.ix (dV 0) (dC (.int 0))) (dBin D.ix (dV 0) (dUn D.neg (dC (.int 1))))) (sSeq (sIf (dEqB eqT false (dCall 1 F_least (dCons (dBin D.ix (dV 1) (dC (.int 1))) (dNil))) (dCall 1 F_least (dCons (dBin D.ix (dV 2) (dC (.int 1))) (dNil)))) (sSeq (sAsg (dTup (dCons (dTup (dCons (dCall 1 F_least (dCons (dBin D.ix (dV 1) (dC (.int 1))) (dNil))) (dCons (dTup (dCons (dC (.int 0)) (dCons (dC (.int 0)) (dCons (dC (.int 0)) (dNil))))) (dNil)))) (dCons (dTup (dCons (dCall 1 F_least (dCons (dBin D.ix (dV 1) (dC (.int 1))) (dNil))) (dCons (dCall 1 F_least (dCons (dBin D.ix (dV 1) (dC (.int 1))) (dNil))) (dNil)))) (dNil)))) (tgName 3)) (sSeq (sRet (dIf (dTru (dCall 2 F_is_seen (dCons (dBin D.ix (dV 3) (dC (.int 0))) (dCons (dV 0) (dNil))))) (dV 3) (dTup (dNil)))) (sNext))) (sNext)) (sSeq (sIf (dTru (dCall 2 F_is_on_line (dCons (dBin D.ix (dV 1) (dC (.int 1))) (dCons (dBin D.ix (dV 2) (dC (.int 1))) (dNil))))) (sSeq (sRet (dTup (dNil))) (sNext)) (sNext)) (sSeq (sIf (dEqB eqT false (dBi bLen (dCons (dV 0) (dNil))) (dC (.int 2))) (sSeq (sRet (dTup (dCons (dCall 4 F_way_of_two (dCons (dV 1) (dCons (dV 2) (dCons (dC (.int 1)) (dCons (dC (.int 1)) (dNil)))))) (dCons (dCall 4 F_way_of_two (dCons (dV 1) (dCons (dV 2) (dCons (dC (.int 1)) (dCons (dC (.int 2)) (dNil)))))) (dNil))))) (sNext)) (sNext)) (sSeq (sAsg (dBin D.ix (dV 0) (dC (.int 1))) (tgName 4)) (sSeq (sIf (dNotB (dTru (dCall 3 F_is_between (dCons (dBin D.ix (dV 1) (dC (.int 1))) (dCons (dBin D.ix (dV 4) (dC (.int 1))) (dCons (dBin D.ix (dV 2) (dC (.int 1))) (dNil))))))) (sSeq (sRet (dTup (dNil))) (sNext)) (sNext)) (sSeq (sAsg (dCall 2 F_cross (dCons (dBin D.ix (dV 1) (dC (.int 1))) (dCons (dBin D.ix (dV 2) (dC (.int 1))) (dNil)))) (tgName 5)) (sSeq (sAsg (dBin D.mul (dCall 2 F_dot (dCons (dCall 2 F_cross (dCons (dBin D.ix (dV 4) (dC (.int 1))) (dCons (dBin D.ix (dV 2) (dC (.int 1))) (dNil)))) (dCons (dV 5) (dNil)))) (dBin D.sub (dBin D.ix (dV 4) (dC (.int 0))) (dBin D.ix (dV 1) (dC (.int 0))))) (tgName 6)) (sSeq (sAsg (dBin D.mul (dCall 2 F_dot (dCons (dCall 2 F_cross (dCons (dBin D.ix (dV 1) (dC (.int 1))) (dCons (dBin D.ix (dV 4) (dC (.int 1))) (dNil)))) (dCons (dV 5) (dNil)))) (dBin D.sub (dBin D.ix (dV 2) (dC (.int 0))) (dBin D.ix (dV 4) (dC (.int 0))))) (tgName 7)) (sSeq (sAsg (dCall 4 F_way_of_two (dCons (dV 1) (dCons (dV 2) (dCons (dV 6) (dCons (dV 7) (dNil)))))) (tgName 3)) (sSeq (sRet (dIf (dTru (dCall 2 F_is_seen (dCons (dV 3) (dCons (dV 0) (dNil))))) (dTup (dCons (dV 3) (dNil))) (dTup (dNil)))) (sNext)))))))))))
def F_ways_by : Fn := runB 8 (S_ways_by)
theorem ok_ways_by (B : Bn) : B.Ok ("ways_by", none) 7 1 (F_ways_by) := by
  obtain ⟨fd, F⟩ := B.say.def_ (d := dd_ways_by) 38 rfl
  exact Bun.ok (k := 6) (N := N_ways_by) (ps := ["sightings"]) (S := S_ways_by) F sc_ways_by (fun _ _ _ _ _ _ us hl => match us, hl with | [_], _ => rfl) fun da me cdv A outer s H E i => (show DSs (B.G da me) (B.X N_ways_by dd_ways_by.qual dd_ways_by.scope (He.fAd B.K ("ways_by", none)) cdv A outer s H E) (defBody (top 38)) (S_ways_by) from dss_cons (ds_par2 (ps_par (i := 1) (j := 2) rfl sc_ways_by.nd rfl rfl (by decide) rfl rfl (da_cons (de_ix rfl (DE.toR (de_var (pv 0))) (DE.toR (de_const pe_int (fun _ => Rep.int _))) (fun _ _ => rfl)) (da_cons (de_ix rfl (DE.toR (de_var (pv 0))) (DE.toR (de_neg (de_const pe_int (fun _ => Rep.int _)))) (fun _ _ => rfl)) (da_nil) rfl) rfl) rfl rfl)) (dss_cons (ds_if (dt_eq rfl Bun.kit (Bun.eqOk (eqRow B (by decide)) i) i.room.units (DE.toR (de_call (Bun.call (ok_least B) i (by decide) (Bun.glo 9 rfl)) rfl (da_cons (de_ix rfl (DE.toR (de_var (pv 1))) (DE.toR (de_const pe_int (fun _ => Rep.int _))) (fun _ _ => rfl)) (da_nil) rfl) rfl rfl rfl)) (de_call (Bun.call (ok_least B) i (by decide) (Bun.glo 9 rfl)) rfl (da_cons (de_ix rfl (DE.toR (de_var (pv 2))) (DE.toR (de_const pe_int (fun _ => Rep.int _))) (fun _ _ => rfl)) (da_nil) rfl) rfl rfl rfl) rfl) (dss_cons (ds_asg (de_tup (da_cons (de_tup (da_cons (de_call (Bun.call (ok_least B) i (by decide) (Bun.glo 9 rfl)) rfl (da_cons (de_ix rfl (DE.toR (de_var (pv 1))) (DE.toR (de_const pe_int (fun _ => Rep.int _))) (fun _ _ => rfl)) (da_nil) rfl) rfl rfl rfl) (da_cons (de_tup (da_cons (de_const pe_int (fun _ => Rep.int _)) (da_cons (de_const pe_int (fun _ => Rep.int _)) (da_cons (de_const pe_int (fun _ => Rep.int _)) (da_nil) rfl) rfl) rfl)) (da_nil) rfl) rfl)) (da_cons (de_tup (da_cons (de_call (Bun.call (ok_least B) i (by decide) (Bun.glo 9 rfl)) rfl (da_cons (de_ix rfl (DE.toR (de_var (pv 1))) (DE.toR (de_const pe_int (fun _ => Rep.int _))) (fun _ _ => rfl)) (da_nil) rfl) rfl rfl rfl) (da_cons (de_call (Bun.call (ok_least B) i (by decide) (Bun.glo 9 rfl)) rfl (da_cons (de_ix rfl (DE.toR (de_var (pv 1))) (DE.toR (de_const pe_int (fun _ => Rep.int _))) (fun _ _ => rfl)) (da_nil) rfl) rfl rfl rfl) (da_nil) rfl) rfl)) (da_nil) rfl) rfl)) (dg_name (pg_name sc_ways_by.nd rfl (by first | exact Or.inl rfl | exact Or.inr rfl) (by first | exact .inl rfl | exact .inr rfl))) rfl rfl rfl) (dss_cons (ds_ret (de_if (dt_tru rfl (DE.toR (de_call (Bun.call (ok_is_seen B) i (by decide) (Bun.glo 24 rfl)) rfl (da_cons (de_ix rfl (DE.toR (de_var (pv 3))) (DE.toR (de_const pe_int (fun _ => Rep.int _))) (fun _ _ => rfl)) (da_cons (de_var (pv 0)) (da_nil) rfl) rfl) rfl rfl rfl)) (fun _ => rfl)) (de_var (pv 3)) (de_tup (da_nil)))) (dss_nil))) (dss_nil)) (dss_cons (ds_if (dt_tru rfl (DE.toR (de_call (Bun.call (ok_is_on_line B) i (by decide) (Bun.glo 16 rfl)) rfl (da_cons (de_ix rfl (DE.toR (de_var (pv 1))) (DE.toR (de_const pe_int (fun _ => Rep.int _))) (fun _ _ => rfl)) (da_cons (de_ix rfl (DE.toR (de_var (pv 2))) (DE.toR (de_const pe_int (fun _ => Rep.int _))) (fun _ _ => rfl)) (da_nil) rfl) rfl) rfl rfl rfl)) (fun _ => rfl)) (dss_cons (ds_ret (de_tup (da_nil))) (dss_nil)) (dss_nil)) (dss_cons (ds_if (dt_eq rfl Bun.kit (Bun.eqOk (eqRow B (by decide)) i) i.room.units (DE.toR (de_callB call_len bLen_ok rfl (Bun.free 54 rfl) (by decide +kernel) (dra_cons (DE.toR (de_var (pv 0))) (dra_nil) rfl) (by decide) rfl rfl rfl)) (de_const pe_int (fun _ => Rep.int _)) rfl) (dss_cons (ds_ret (de_tup (da_cons (de_call (Bun.call (ok_way_of_two B) i (by decide) (Bun.glo 25 rfl)) rfl (da_cons (de_var (pv 1)) (da_cons (de_var (pv 2)) (da_cons (de_const pe_int (fun _ => Rep.int _)) (da_cons (de_const pe_int (fun _ => Rep.int _)) (da_nil) rfl) rfl) rfl) rfl) rfl rfl rfl) (da_cons (de_call (Bun.call (ok_way_of_two B) i (by decide) (Bun.glo 25 rfl)) rfl (da_cons (de_var (pv 1)) (da_cons (de_var (pv 2)) (da_cons (de_const pe_int (fun _ => Rep.int _)) (da_cons (de_const pe_int (fun _ => Rep.int _)) (da_nil) rfl) rfl) rfl) rfl) rfl rfl rfl) (da_nil) rfl) rfl))) (dss_nil)) (dss_nil)) (dss_cons (ds_asg (de_ix rfl (DE.toR (de_var (pv 0))) (DE.toR (de_const pe_int (fun _ => Rep.int _))) (fun _ _ => rfl)) (dg_name (pg_name sc_ways_by.nd rfl (by first | exact Or.inl rfl | exact Or.inr rfl) (by first | exact .inl rfl | exact .inr rfl))) rfl rfl rfl) (dss_cons (ds_if (dt_not (dt_tru rfl (DE.toR (de_call (Bun.call (ok_is_between B) i (by decide) (Bun.glo 17 rfl)) rfl (da_cons (de_ix rfl (DE.toR (de_var (pv 1))) (DE.toR (de_const pe_int (fun _ => Rep.int _))) (fun _ _ => rfl)) (da_cons (de_ix rfl (DE.toR (de_var (pv 4))) (DE.toR (de_const pe_int (fun _ => Rep.int _))) (fun _ _ => rfl)) (da_cons (de_ix rfl (DE.toR (de_var (pv 2))) (DE.toR (de_const pe_int (fun _ => Rep.int _))) (fun _ _ => rfl)) (da_nil) rfl) rfl) rfl) rfl rfl rfl)) (fun _ => rfl))) (dss_cons (ds_ret (de_tup (da_nil))) (dss_nil)) (dss_nil)) (dss_cons (ds_asg (de_call (Bun.call (ok_cross B) i (by decide) (Bun.glo 12 rfl)) rfl (da_cons (de_ix rfl (DE.toR (de_var (pv 1))) (DE.toR (de_const pe_int (fun _ => Rep.int _))) (fun _ _ => rfl)) (da_cons (de_ix rfl (DE.toR (de_var (pv 2))) (DE.toR (de_const pe_int (fun _ => Rep.int _))) (fun _ _ => rfl)) (da_nil) rfl) rfl) rfl rfl rfl) (dg_name (pg_name sc_ways_by.nd rfl (by first | exact Or.inl rfl | exact Or.inr rfl) (by first | exact .inl rfl | exact .inr rfl))) rfl rfl rfl) (dss_cons (ds_asg (de_op op_mulX rd_mul (DE.toR (de_call (Bun.call (ok_dot B) i (by decide) (Bun.glo 11 rfl)) rfl (da_cons (de_call (Bun.call (ok_cross B) i (by decide) (Bun.glo 12 rfl)) rfl (da_cons (de_ix rfl (DE.toR (de_var (pv 4))) (DE.toR (de_const pe_int (fun _ => Rep.int _))) (fun _ _ => rfl)) (da_cons (de_ix rfl (DE.toR (de_var (pv 2))) (DE.toR (de_const pe_int (fun _ => Rep.int _))) (fun _ _ => rfl)) (da_nil) rfl) rfl) rfl rfl rfl) (da_cons (de_var (pv 5)) (da_nil) rfl) rfl) rfl rfl rfl)) (DE.toR (de_op op_sub rd_sub (DE.toR (de_ix rfl (DE.toR (de_var (pv 4))) (DE.toR (de_const pe_int (fun _ => Rep.int _))) (fun _ _ => rfl))) (DE.toR (de_ix rfl (DE.toR (de_var (pv 1))) (DE.toR (de_const pe_int (fun _ => Rep.int _))) (fun _ _ => rfl)))))) (dg_name (pg_name sc_ways_by.nd rfl (by first | exact Or.inl rfl | exact Or.inr rfl) (by first | exact .inl rfl | exact .inr rfl))) rfl rfl rfl) (dss_cons (ds_asg (de_op op_mulX rd_mul (DE.toR (de_call (Bun.call (ok_dot B) i (by decide) (Bun.glo 11 rfl)) rfl (da_cons (de_call (Bun.call (ok_cross B) i (by decide) (Bun.glo 12 rfl)) rfl (da_cons (de_ix rfl (DE.toR (de_var (pv 1))) (DE.toR (de_const pe_int (fun _ => Rep.int _))) (fun _ _ => rfl)) (da_cons (de_ix rfl (DE.toR (de_var (pv 4))) (DE.toR (de_const pe_int (fun _ => Rep.int _))) (fun _ _ => rfl)) (da_nil) rfl) rfl) rfl rfl rfl) (da_cons (de_var (pv 5)) (da_nil) rfl) rfl) rfl rfl rfl)) (DE.toR (de_op op_sub rd_sub (DE.toR (de_ix rfl (DE.toR (de_var (pv 2))) (DE.toR (de_const pe_int (fun _ => Rep.int _))) (fun _ _ => rfl))) (DE.toR (de_ix rfl (DE.toR (de_var (pv 4))) (DE.toR (de_const pe_int (fun _ => Rep.int _))) (fun _ _ => rfl)))))) (dg_name (pg_name sc_ways_by.nd rfl (by first | exact Or.inl rfl | exact Or.inr rfl) (by first | exact .inl rfl | exact .inr rfl))) rfl rfl rfl) (dss_cons (ds_asg (de_call (Bun.call (ok_way_of_two B) i (by decide) (Bun.glo 25 rfl)) rfl (da_cons (de_var (pv 1)) (da_cons (de_var (pv 2)) (da_cons (de_var (pv 6)) (da_cons (de_var (pv 7)) (da_nil) rfl) rfl) rfl) rfl) rfl rfl rfl) (dg_name (pg_name sc_ways_by.nd rfl (by first | exact Or.inl rfl | exact Or.inr rfl) (by first | exact .inl rfl | exact .inr rfl))) rfl rfl rfl) (dss_cons (ds_ret (de_if (dt_tru rfl (DE.toR (de_call (Bun.call (ok_is_seen B) i (by decide) (Bun.glo 24 rfl)) rfl (da_cons (de_var (pv 3)) (da_cons (de_var (pv 0)) (da_nil) rfl) rfl) rfl rfl rfl)) (fun _ => rfl)) (de_tup (da_cons (de_var (pv 3)) (da_nil) rfl)) (de_tup (da_nil)))) (dss_nil))))))))))))
def N_judge_way : List Str := ["sightings", "many", "found"]
theorem sc_judge_way : FnScope N_judge_way ["sightings"] (defScope (top 39)) := ⟨rfl, rfl, rfl, by decide +kernel, rfl, by decide +kernel, by decide +kernel⟩
def S_judge_way : SemS := sSeq (sDrop (dCall 1 F_check_sightings (dCons (dV 0) (dNil)))) (sSeq (sFor (dRng (dCons (dC (.int 1)) (dCons (dBin D.add (dBi bLen (dCons (dV 0) (dNil))) (dC (.int 1))) dNil))) (tgName 1) (sSeq (sIf (dEqB eqT false (dCall 1 F_ways_by (dCons (dSl (dV 0) (dNoPart) (dPart (dV 1))) (dNil))) (dTup (dNil))) (sSeq (sRet (dMake .NoWay 1 FI_NoWay (dCons (dUn D.lrg (dV 1)) (dNil)))) (sNext)) (sNext)) (sNext))) (sSeq (sAsg (dCall 1 F_ways_by (dCons (dV 0) (dNil))) (tgName 2)) (sSeq (sRet (dIf (dEqB eqT false (dBi bLen (dCons (dV 2) (dNil))) (dC (.int 1))) (dMake .Way 2 FI_Way (dCons (dBin D.ix (dBin D.ix (dV 2) (dC (.int 0))) (dC (.int 0))) (dCons (dBin D.ix (dBin D.ix (dV 2) (dC (.int 0))) (dC (.int 1))) (dNil)))) (dMake .Ways 2 FI_Ways (dCons (dBin D.ix (dV 2) (dC (.int 0))) (dCons (dBin D.ix (dV 2) (dC (.int 1))) (dNil)))))) (sNext))))
def F_judge_way : Fn := runB 3 (S_judge_way)
theorem ok_judge_way (B : Bn) : B.Ok ("judge_way", none) 8 1 (F_judge_way) := by
  obtain ⟨fd, F⟩ := B.say.def_ (d := dd_judge_way) 39 rfl
  exact Bun.ok (k := 7) (N := N_judge_way) (ps := ["sightings"]) (S := S_judge_way) F sc_judge_way (fun _ _ _ _ _ _ us hl => match us, hl with | [_], _ => rfl) fun da me cdv A outer s H E i => (show DSs (B.G da me) (B.X N_judge_way dd_judge_way.qual dd_judge_way.scope (He.fAd B.K ("judge_way", none)) cdv A outer s H E) (defBody (top 39)) (S_judge_way) from dss_cons (ds_expr (de_call (Bun.call (ok_check_sightings B) i (by decide) (Bun.glo 18 rfl)) rfl (da_cons (de_var (pv 0)) (da_nil) rfl) rfl rfl rfl) rfl) (dss_cons (ds_for PassesOwn.never rfl (di_range2 rfl (Bun.free 60 rfl) (de_const pe_int (fun _ => Rep.int _)) (de_op op_addD rd_add (DE.toR (de_callB call_len bLen_ok rfl (Bun.free 54 rfl) (by decide +kernel) (dra_cons (DE.toR (de_var (pv 0))) (dra_nil) rfl) (by decide) rfl rfl rfl)) (DE.toR (de_const pe_int (fun _ => Rep.int _)))) rfl rfl) (dg_name (pg_name sc_judge_way.nd rfl (by first | exact Or.inl rfl | exact Or.inr rfl) (by first | exact .inl rfl | exact .inr rfl))) (dss_cons (ds_if (dt_eq rfl Bun.kit (Bun.eqOk (eqRow B (by decide)) i) i.room.units (DE.toR (de_call (Bun.call (ok_ways_by B) i (by decide) (Bun.glo 26 rfl)) rfl (da_cons (de_slice rfl (DE.toR (de_var (pv 0))) (do_none) (do_some (de_var (pv 1)))) (da_nil) rfl) rfl rfl rfl)) (de_tup (da_nil)) rfl) (dss_cons (ds_ret (de_make (Bun.make (ok_NoWay___init__ B) i (by decide) rfl (Bun.glo 49 rfl) (B.say.fact 78 rfl) (B.say.fact 49 rfl)) rfl (da_cons (de_lstRg rfl rfl (Bun.free 62 rfl) rfl (Bun.free 60 rfl) (de_var (pv 1)) rfl rfl) (da_nil) rfl) rfl rfl rfl)) (dss_nil)) (dss_nil)) (dss_nil)) (fun _ => rfl)) (dss_cons (ds_asg (de_call (Bun.call (ok_ways_by B) i (by decide) (Bun.glo 26 rfl)) rfl (da_cons (de_var (pv 0)) (da_nil) rfl) rfl rfl rfl) (dg_name (pg_name sc_judge_way.nd rfl (by first | exact Or.inl rfl | exact Or.inr rfl) (by first | exact .inl rfl | exact .inr rfl))) rfl rfl rfl) (dss_cons (ds_ret (de_if (dt_eq rfl Bun.kit (Bun.eqOk (eqRow B (by decide)) i) i.room.units (DE.toR (de_callB call_len bLen_ok rfl (Bun.free 54 rfl) (by decide +kernel) (dra_cons (DE.toR (de_var (pv 2))) (dra_nil) rfl) (by decide) rfl rfl rfl)) (de_const pe_int (fun _ => Rep.int _)) rfl) (de_make (Bun.make (ok_Way___init__ B) i (by decide) rfl (Bun.glo 47 rfl) (B.say.fact 70 rfl) (B.say.fact 47 rfl)) rfl (da_cons (de_ix rfl (DE.toR (de_ix rfl (DE.toR (de_var (pv 2))) (DE.toR (de_const pe_int (fun _ => Rep.int _))) (fun _ _ => rfl))) (DE.toR (de_const pe_int (fun _ => Rep.int _))) (fun _ _ => rfl)) (da_cons (de_ix rfl (DE.toR (de_ix rfl (DE.toR (de_var (pv 2))) (DE.toR (de_const pe_int (fun _ => Rep.int _))) (fun _ _ => rfl))) (DE.toR (de_const pe_int (fun _ => Rep.int _))) (fun _ _ => rfl)) (da_nil) rfl) rfl) rfl rfl rfl) (de_make (Bun.make (ok_Ways___init__ B) i (by decide) rfl (Bun.glo 48 rfl) (B.say.fact 74 rfl) (B.say.fact 48 rfl)) rfl (da_cons (de_ix rfl (DE.toR (de_var (pv 2))) (DE.toR (de_const pe_int (fun _ => Rep.int _))) (fun _ _ => rfl)) (da_cons (de_ix rfl (DE.toR (de_var (pv 2))) (DE.toR (de_const pe_int (fun _ => Rep.int _))) (fun _ _ => rfl)) (da_nil) rfl) rfl) rfl rfl rfl))) (dss_nil)))))
def N_nights_alike : List Str := ["one", "other", "most", "rows", "night", "left", "right"]
theorem sc_nights_alike : FnScope N_nights_alike ["one", "other", "most"] (defScope (top 42)) := ⟨rfl, rfl, rfl, by decide +kernel, rfl, by decide +kernel, by decide +kernel⟩
def S_nights_alike : SemS := sSeq (sDrop (dCall 1 F_check_way (dCons (dV 0) (dNil)))) (sSeq (sDrop (dCall 1 F_check_way (dCons (dV 1) (dNil)))) (sSeq (sDrop (dCall 4 F_check_number (dCons (dC (.str "most")) (dCons (dV 2) (dCons (dC (.int 0)) (dCons (dC (.int 99)) (dNil))))))) (sSeq (sAsg (dLc [4] (dRng (dCons (dBin D.add (dV 2) (dC (.int 1))) dNil)) (tgName 4) (dTrue) (dTup (dCons (dV 4) (dCons (dCall 2 F_seen (dCons (dV 0) (dCons (dV 4) (dNil)))) (dCons (dCall 2 F_seen (dCons (dV 1) (dCons (dV 4) (dNil)))) (dNil)))))) (tgName 3)) (sSeq (sRet (dBi bTup (dCons (dLc [4, 5, 6] (dItems (dV 3)) (tgTup 3 (tgsCons (tgName 4) (tgsCons (tgName 5) (tgsCons (tgName 6) (tgsNil))))) (dAndB (dBinB cIsNot (dV 5) (dC .non)) (dEqB eqT false (dV 5) (dV 6))) (dV 4)) (dNil)))) (sNext)))))
def F_nights_alike : Fn := runB 7 (S_nights_alike)
theorem ok_nights_alike (B : Bn) : B.Ok ("nights_alike", none) 7 3 (F_nights_alike) := by
  obtain ⟨fd, F⟩ := B.say.def_ (d := dd_nights_alike) 42 rfl
  exact Bun.ok (k := 6) (N := N_nights_alike) (ps := ["one", "other", "most"]) (S := S_nights_alike) F sc_nights_alike (fun _ _ _ _ _ _ us hl => match us, hl with | [_, _, _], _ => rfl) fun da me cdv A outer s H E i => (show DSs (B.G da me) (B.X N_nights_alike dd_nights_alike.qual dd_nights_alike.scope (He.fAd B.K ("nights_alike", none)) cdv A outer s H E) (defBody (top 42)) (S_nights_alike) from dss_cons (ds_expr (de_call (Bun.call (ok_check_way B) i (by decide) (Bun.glo 23 rfl)) rfl (da_cons (de_var (pv 0)) (da_nil) rfl) rfl rfl rfl) rfl) (dss_cons (ds_expr (de_call (Bun.call (ok_check_way B) i (by decide) (Bun.glo 23 rfl)) rfl (da_cons (de_var (pv 1)) (da_nil) rfl) rfl rfl rfl) rfl) (dss_cons (ds_expr (de_call (Bun.call (ok_check_number B) i (by decide) (Bun.glo 3 rfl)) rfl (da_cons (de_const pe_str (fun _ => Rep.str _)) (da_cons (de_var (pv 2)) (da_cons (de_const pe_int (fun _ => Rep.int _)) (da_cons (de_int (He.int_ok B.hIn B.hNs (B.say.fact 94 rfl)) rfl) (da_nil) rfl) rfl) rfl) rfl) rfl rfl rfl) rfl) (dss_cons (ds_setLc (i := 3) rfl sc_nights_alike.nd rfl rfl (sw_true rfl rfl rfl rfl) (di_range1 rfl (Bun.free 60 rfl) (de_op op_addD rd_add (DE.toR (de_var (pv 2))) (DE.toR (de_const pe_int (fun _ => Rep.int _)))) rfl) (blkOk_by (own := [("night", 4)]) rfl) (fun _ _ _ _ _ => dg_name (pg_name sc_nights_alike.nd rfl (by first | exact Or.inl rfl | exact Or.inr rfl) (by first | exact .inl rfl | exact .inr rfl))) (fun _ _ _ _ _ => dts_nil) (fun _ _ _ _ _ => de_tup (da_cons (de_var (pv 4)) (da_cons (de_call (Bun.call (ok_seen B) i.blk (by decide) (Bun.glo 22 rfl)) rfl (da_cons (de_var (pv 0)) (da_cons (de_var (pv 4)) (da_nil) rfl) rfl) rfl rfl rfl) (da_cons (de_call (Bun.call (ok_seen B) i.blk (by decide) (Bun.glo 22 rfl)) rfl (da_cons (de_var (pv 1)) (da_cons (de_var (pv 4)) (da_nil) rfl) rfl) rfl rfl rfl) (da_nil) rfl) rfl) rfl)) (by decide) (fun _ => rfl) rfl) (dss_cons (ds_ret (de_callT call_tuple_of bTup_ok rfl (Bun.free 61 rfl) (by decide +kernel) (dra_cons (DE.toR (de_lc rfl sc_nights_alike.nd (di_seq rfl (de_var (pv 3))) (blkOk_by (own := [("night", 4), ("left", 5), ("right", 6)]) rfl) (fun _ _ _ _ _ => dg_tup rfl rfl (dgs_cons (dg_name (pg_name sc_nights_alike.nd rfl (by first | exact Or.inl rfl | exact Or.inr rfl) (by first | exact .inl rfl | exact .inr rfl))) (dgs_cons (dg_name (pg_name sc_nights_alike.nd rfl (by first | exact Or.inl rfl | exact Or.inr rfl) (by first | exact .inl rfl | exact .inr rfl))) (dgs_cons (dg_name (pg_name sc_nights_alike.nd rfl (by first | exact Or.inl rfl | exact Or.inr rfl) (by first | exact .inl rfl | exact .inr rfl))) (dgs_nil) rfl) rfl) rfl) rfl rfl) (fun _ _ _ _ _ => dts_one (PW.pt (dw_and (dc_test op_isNotD rd_isNot (DE.toR (de_var (pv 5))) (DE.toR (de_const pe_non (fun _ => Rep.non))) rfl) (dw_and1 (dt_eq rfl Bun.kit (Bun.eqOk (eqRow B (by decide)) i.blk) i.blk.room.units (DE.toR (de_var (pv 5))) (de_var (pv 6)) rfl))))) (fun _ _ _ _ _ => de_var (pv 4)) (by decide) (fun _ => rfl) rfl)) (dra_nil) rfl) (by decide) rfl rfl rfl)) (dss_nil))))))
def N_Apart___init__ : List Str := ["self", "rows"]
theorem sc_Apart___init__ : FnScope N_Apart___init__ ["self", "rows"] (defScope (inClass (top 48) 0)) := ⟨rfl, rfl, rfl, by decide +kernel, rfl, by decide +kernel, by decide +kernel⟩
def S_Apart___init__ : SemS := sSeq (sMe 0 "rows" (dCall 1 F_frozen (dCons (dV 1) (dNil)))) (sNext)
def FI_Apart : FnI := runI 2 .Apart S_Apart___init__
theorem ok_Apart___init__ (B : Bn) : B.OkI .Apart 3 1 FI_Apart := by
  obtain ⟨fd, F⟩ := B.say.def_ (d := dd_Apart___init__) 45 rfl
  exact Bun.okI (c := .Apart) (k := 2) (N := N_Apart___init__) (ps := ["self", "rows"]) (S := S_Apart___init__) F sc_Apart___init__ rfl (fun _ _ _ _ _ _ us hl => match us, hl with | [_, _], _ => rfl) fun da me cdv A outer s H E i => (show DSs (B.G da me) (B.X N_Apart___init__ dd_Apart___init__.qual dd_Apart___init__.scope (He.fAd B.K ("Apart", some "__init__")) cdv A outer s H E) (defBody (inClass (top 48) 0)) S_Apart___init__ from dss_cons (ds_me rfl (Bun.kit.cls) (pv 0) (de_call (Bun.call (ok_frozen B) i (by decide) (Bun.glo 33 rfl)) rfl (da_cons (de_var (pv 1)) (da_nil) rfl) rfl rfl rfl) rfl) (dss_nil))
def N_Mixed___init__ : List Str := ["self", "one", "other"]
theorem sc_Mixed___init__ : FnScope N_Mixed___init__ ["self", "one", "other"] (defScope (inClass (top 49) 0)) := ⟨rfl, rfl, rfl, by decide +kernel, rfl, by decide +kernel, by decide +kernel⟩
def S_Mixed___init__ : SemS := sSeq (sMe 0 "one" (dCall 1 F_frozen (dCons (dV 1) (dNil)))) (sSeq (sMe 0 "other" (dCall 1 F_frozen (dCons (dV 2) (dNil)))) (sNext))
def FI_Mixed : FnI := runI 3 .Mixed S_Mixed___init__
theorem ok_Mixed___init__ (B : Bn) : B.OkI .Mixed 3 2 FI_Mixed := by
  obtain ⟨fd, F⟩ := B.say.def_ (d := dd_Mixed___init__) 49 rfl
  exact Bun.okI (c := .Mixed) (k := 2) (N := N_Mixed___init__) (ps := ["self", "one", "other"]) (S := S_Mixed___init__) F sc_Mixed___init__ rfl (fun _ _ _ _ _ _ us hl => match us, hl with | [_, _, _], _ => rfl) fun da me cdv A outer s H E i => (show DSs (B.G da me) (B.X N_Mixed___init__ dd_Mixed___init__.qual dd_Mixed___init__.scope (He.fAd B.K ("Mixed", some "__init__")) cdv A outer s H E) (defBody (inClass (top 49) 0)) S_Mixed___init__ from dss_cons (ds_me rfl (Bun.kit.cls) (pv 0) (de_call (Bun.call (ok_frozen B) i (by decide) (Bun.glo 33 rfl)) rfl (da_cons (de_var (pv 1)) (da_nil) rfl) rfl rfl rfl) rfl) (dss_cons (ds_me rfl (Bun.kit.cls) (pv 0) (de_call (Bun.call (ok_frozen B) i (by decide) (Bun.glo 33 rfl)) rfl (da_cons (de_var (pv 2)) (da_nil) rfl) rfl rfl rfl) rfl) (dss_nil)))
def N_check_nights : List Str := ["nights", "last", "place", "row"]
theorem sc_check_nights : FnScope N_check_nights ["nights"] (defScope (top 52)) := ⟨rfl, rfl, rfl, by decide +kernel, rfl, by decide +kernel, by decide +kernel⟩
def S_check_nights : SemS := sSeq (sIf (dOrB (dNotB (dTru (dCall 1 F_is_row (dCons (dV 0) (dNil))))) (dNotB (dChain cLe cLe (dC (.int 2)) (dBi bLen (dCons (dV 0) (dNil))) (dC (.int 5))))) (sFail) (sNext)) (sSeq (sAsg (dUn D.neg (dC (.int 1))) (tgName 1)) (sSeq (sFor (dEnumA (dV 0)) (tgTup 2 (tgsCons (tgName 2) (tgsCons (tgName 3) (tgsNil)))) (sSeq (sIf (dOrB (dNotB (dTru (dIsi .tuple (dV 3)))) (dOrB (dEqB eqT true (dBi bLen (dCons (dV 3) (dNil))) (dC (.int 2))) (dNotB (dTru (dCall 3 F_is_number (dCons (dBin D.ix (dV 3) (dC (.int 0))) (dCons (dBin D.add (dV 1) (dC (.int 1))) (dCons (dC (.int 99)) (dNil))))))))) (sFail) (sNext)) (sSeq (sIf (dOrB (dNotB (dTru (dCall 1 F_are_unlike (dCons (dBin D.ix (dV 3) (dC (.int 1))) (dNil))))) (dAndB (dBinB cGtA (dV 2) (dC (.int 0))) (dEqB eqT true (dBi bLen (dCons (dBin D.ix (dV 3) (dC (.int 1))) (dNil))) (dBi bLen (dCons (dBin D.ix (dBin D.ix (dV 0) (dC (.int 0))) (dC (.int 1))) (dNil)))))) (sFail) (sNext)) (sSeq (sAsg (dBin D.ix (dV 3) (dC (.int 0))) (tgName 1)) (sNext))))) (sNext)))
def F_check_nights : Fn := runB 4 (S_check_nights)
theorem ok_check_nights (B : Bn) : B.Ok ("check_nights", none) 7 1 (F_check_nights) := by
  obtain ⟨fd, F⟩ := B.say.def_ (d := dd_check_nights) 57 rfl
  exact Bun.ok (k := 6) (N := N_check_nights) (ps := ["nights"]) (S := S_check_nights) F sc_check_nights (fun _ _ _ _ _ _ us hl => match us, hl with | [_], _ => rfl) fun da me cdv A outer s H E i => (show DSs (B.G da me) (B.X N_check_nights dd_check_nights.qual dd_check_nights.scope (He.fAd B.K ("check_nights", none)) cdv A outer s H E) (defBody (top 52)) (S_check_nights) from dss_cons (ds_if (PW.pt (dw_or (dt_not (dt_tru rfl (DE.toR (de_call (Bun.call (ok_is_row B) i (by decide) (Bun.glo 4 rfl)) rfl (da_cons (de_var (pv 0)) (da_nil) rfl) rfl rfl rfl)) (fun _ => rfl))) (dw_or1 (dt_not (dt_chain op_le op_le rd_le rd_le (DE.toR (de_const pe_int (fun _ => Rep.int _))) (DE.toR (de_callB call_len bLen_ok rfl (Bun.free 54 rfl) (by decide +kernel) (dra_cons (DE.toR (de_var (pv 0))) (dra_nil) rfl) (by decide) rfl rfl rfl)) (DE.toR (de_int (He.int_ok B.hIn B.hNs (B.say.fact 96 rfl)) rfl)) rfl))))) (dss_fail) (dss_nil)) (dss_cons (ds_asg (de_neg (de_const pe_int (fun _ => Rep.int _))) (dg_name (pg_name sc_check_nights.nd rfl (by first | exact Or.inl rfl | exact Or.inr rfl) (by first | exact .inl rfl | exact .inr rfl))) rfl rfl rfl) (dss_cons (ds_for PassesOwn.never rfl (di_enumA rfl rfl (Bun.free 59 rfl) (de_var (pv 0)) rfl) (dg_tup rfl rfl (dgs_cons (dg_name (pg_name sc_check_nights.nd rfl (by first | exact Or.inl rfl | exact Or.inr rfl) (by first | exact .inl rfl | exact .inr rfl))) (dgs_cons (dg_name (pg_name sc_check_nights.nd rfl (by first | exact Or.inl rfl | exact Or.inr rfl) (by first | exact .inl rfl | exact .inr rfl))) (dgs_nil) rfl) rfl) rfl rfl) (dss_cons (ds_if (PW.pt (dw_or (dt_not (dt_tru rfl (DE.toR (de_isi rfl Bun.kit rfl (Bun.free 53 rfl) rfl (DE.toR (de_var (pv 3))) (pe_tyB "tuple" rfl (Bun.free 61 rfl) (by decide +kernel)) rfl rfl rfl)) (fun _ => rfl))) (dw_or (dt_ne rfl Bun.kit (Bun.eqOk (eqRow B (by decide)) i) i.room.units (DE.toR (de_callB call_len bLen_ok rfl (Bun.free 54 rfl) (by decide +kernel) (dra_cons (DE.toR (de_var (pv 3))) (dra_nil) rfl) (by decide) rfl rfl rfl)) (de_const pe_int (fun _ => Rep.int _)) rfl) (dw_or1 (dt_not (dt_tru rfl (DE.toR (de_call (Bun.call (ok_is_number B) i (by decide) (Bun.glo 2 rfl)) rfl (da_cons (de_ix rfl (DE.toR (de_var (pv 3))) (DE.toR (de_const pe_int (fun _ => Rep.int _))) (fun _ _ => rfl)) (da_cons (de_op op_addD rd_add (DE.toR (de_var (pv 1))) (DE.toR (de_const pe_int (fun _ => Rep.int _)))) (da_cons (de_int (He.int_ok B.hIn B.hNs (B.say.fact 94 rfl)) rfl) (da_nil) rfl) rfl) rfl) rfl rfl rfl)) (fun _ => rfl))))))) (dss_fail) (dss_nil)) (dss_cons (ds_if (PW.pt (dw_or (dt_not (dt_tru rfl (DE.toR (de_call (Bun.call (ok_are_unlike B) i (by decide) (Bun.glo 35 rfl)) rfl (da_cons (de_ix rfl (DE.toR (de_var (pv 3))) (DE.toR (de_const pe_int (fun _ => Rep.int _))) (fun _ _ => rfl)) (da_nil) rfl) rfl rfl rfl)) (fun _ => rfl))) (dw_or1 (PW.pt (dw_and (dc_test (op_gtA i.room.units0) rd_gtA (DE.toR (de_var (pv 2))) (DE.toR (de_const pe_int (fun _ => Rep.int _))) rfl) (dw_and1 (dt_ne rfl Bun.kit (Bun.eqOk (eqRow B (by decide)) i) i.room.units (DE.toR (de_callB call_len bLen_ok rfl (Bun.free 54 rfl) (by decide +kernel) (dra_cons (DE.toR (de_ix rfl (DE.toR (de_var (pv 3))) (DE.toR (de_const pe_int (fun _ => Rep.int _))) (fun _ _ => rfl))) (dra_nil) rfl) (by decide) rfl rfl rfl)) (de_callB call_len bLen_ok rfl (Bun.free 54 rfl) (by decide +kernel) (dra_cons (DE.toR (de_ix rfl (DE.toR (de_ix rfl (DE.toR (de_var (pv 0))) (DE.toR (de_const pe_int (fun _ => Rep.int _))) (fun _ _ => rfl))) (DE.toR (de_const pe_int (fun _ => Rep.int _))) (fun _ _ => rfl))) (dra_nil) rfl) (by decide) rfl rfl rfl) rfl))))))) (dss_fail) (dss_nil)) (dss_cons (ds_asg (de_ix rfl (DE.toR (de_var (pv 3))) (DE.toR (de_const pe_int (fun _ => Rep.int _))) (fun _ _ => rfl)) (dg_name (pg_name sc_check_nights.nd rfl (by first | exact Or.inl rfl | exact Or.inr rfl) (by first | exact .inl rfl | exact .inr rfl))) rfl rfl rfl) (dss_nil)))) (fun _ => rfl)) (dss_nil))))
def N_all_rows : List Str := ["nights", "found", "first", "rows", "many", "late", "row", "at"]
theorem sc_all_rows : FnScope N_all_rows ["nights"] (defScope (top 55)) := ⟨rfl, rfl, rfl, by decide +kernel, rfl, by decide +kernel, by decide +kernel⟩
def S_all_rows : SemS := sSeq (sOwn (dNil) 1) (sSeq (sFor (dRng (dCons (dBi bLen (dCons (dBin D.ix (dBin D.ix (dV 0) (dC (.int 0))) (dC (.int 1))) (dNil))) dNil)) (tgName 2) (sSeq (sAsg (dLst (dCons (dTup (dCons (dV 2) (dNil))) (dNil))) (tgName 3)) (sSeq (sFor (dRng (dCons (dC (.int 1)) (dCons (dBi bLen (dCons (dV 0) (dNil))) dNil))) (tgName 4) (sSeq (sAsg (dLc2 [6, 7] (dItems (dV 3)) (tgName 6) (dTrue) (dRng (dCons (dBi bLen (dCons (dBin D.ix (dBin D.ix (dV 0) (dC (.int 0))) (dC (.int 1))) (dNil))) dNil)) [7] (tgName 7) (dTrue) (dTup (dStar (dV 6) (dCons (dV 7) (dNil))))) (tgName 5)) (sSeq (sAsg (dLc [6] (dItems (dV 5)) (tgName 6) (dEqB eqT true (dCall 1 F_ways_by (dCons (dCall 2 F_sightings_of (dCons (dSl (dV 0) (dNoPart) (dPart (dBin D.add (dV 4) (dC (.int 1))))) (dCons (dV 6) (dNil)))) (dNil))) (dTup (dNil))) (dV 6)) (tgName 3)) (sNext)))) (sSeq (sApp 1 (dV 3)) (sNext))))) (sSeq (sFrz 1 (sRet (dV 1))) (sNext)))
def F_all_rows : Fn := runB 8 (S_all_rows)
theorem ok_all_rows (B : Bn) : B.Ok ("all_rows", none) 8 1 (F_all_rows) := by
  obtain ⟨fd, F⟩ := B.say.def_ (d := dd_all_rows) 60 rfl
  exact Bun.ok (k := 7) (N := N_all_rows) (ps := ["nights"]) (S := S_all_rows) F sc_all_rows (fun _ _ _ _ _ _ us hl => match us, hl with | [_], _ => rfl) fun da me cdv A outer s H E i => (show DSs (B.G da me) (B.X N_all_rows dd_all_rows.qual dd_all_rows.scope (He.fAd B.K ("all_rows", none)) cdv A outer s H E) (defBody (top 55)) (S_all_rows) from dss_cons (ds_own (da_nil) (fun te h => ps_set (i := 1) sc_all_rows.nd rfl (by first | exact Or.inl rfl | exact Or.inr rfl) h rfl)) (dss_cons (ds_for PassesOwn.never rfl (di_range1 rfl (Bun.free 60 rfl) (de_callB call_len bLen_ok rfl (Bun.free 54 rfl) (by decide +kernel) (dra_cons (DE.toR (de_ix rfl (DE.toR (de_ix rfl (DE.toR (de_var (pv 0))) (DE.toR (de_const pe_int (fun _ => Rep.int _))) (fun _ _ => rfl))) (DE.toR (de_const pe_int (fun _ => Rep.int _))) (fun _ _ => rfl))) (dra_nil) rfl) (by decide) rfl rfl rfl) rfl) (dg_name (pg_name sc_all_rows.nd rfl (by first | exact Or.inl rfl | exact Or.inr rfl) (by first | exact .inl rfl | exact .inr rfl))) (dss_cons (ds_asg (de_lst (da_cons (de_tup (da_cons (de_var (pv 2)) (da_nil) rfl)) (da_nil) rfl)) (dg_name (pg_name sc_all_rows.nd rfl (by first | exact Or.inl rfl | exact Or.inr rfl) (by first | exact .inl rfl | exact .inr rfl))) rfl rfl rfl) (dss_cons (ds_for PassesOwn.never rfl (di_range2 rfl (Bun.free 60 rfl) (de_const pe_int (fun _ => Rep.int _)) (de_callB call_len bLen_ok rfl (Bun.free 54 rfl) (by decide +kernel) (dra_cons (DE.toR (de_var (pv 0))) (dra_nil) rfl) (by decide) rfl rfl rfl) rfl rfl) (dg_name (pg_name sc_all_rows.nd rfl (by first | exact Or.inl rfl | exact Or.inr rfl) (by first | exact .inl rfl | exact .inr rfl))) (dss_cons (ds_setLc2 (i := 5) rfl sc_all_rows.nd rfl rfl (sw_true rfl rfl rfl rfl) (vs := [7]) (di_seq rfl (de_var (pv 3))) (blkOk_by (own := [("row", 6), ("at", 7)]) rfl) (by decide) (fun _ _ _ _ _ => dg_name (pg_name sc_all_rows.nd rfl (by first | exact Or.inl rfl | exact Or.inr rfl) (by first | exact .inl rfl | exact .inr rfl))) (fun _ _ _ _ _ => dts_nil) (fun _ _ _ _ _ => di_range1 rfl (Bun.free 60 rfl) (de_callB call_len bLen_ok rfl (Bun.free 54 rfl) (by decide +kernel) (dra_cons (DE.toR (de_ix rfl (DE.toR (de_ix rfl (DE.toR (de_var (pv 0))) (DE.toR (de_const pe_int (fun _ => Rep.int _))) (fun _ _ => rfl))) (DE.toR (de_const pe_int (fun _ => Rep.int _))) (fun _ _ => rfl))) (dra_nil) rfl) (by decide) rfl rfl rfl) rfl) (fun _ _ _ _ _ => dg_name (pg_name sc_all_rows.nd rfl (by first | exact Or.inl rfl | exact Or.inr rfl) (by first | exact .inl rfl | exact .inr rfl))) (fun _ _ _ _ _ => dts_nil) (fun _ _ _ _ _ => de_tup (da_star rfl (de_var (pv 6)) (da_cons (de_var (pv 7)) (da_nil) rfl) rfl)) (by decide) (by decide) gd_name (fun _ => rfl) (fun _ _ => rfl) rfl) (dss_cons (ds_setLc (i := 3) rfl sc_all_rows.nd rfl rfl (sw_true rfl rfl rfl rfl) (di_seq rfl (de_var (pv 5))) (blkOk_by (own := [("row", 6)]) rfl) (fun _ _ _ _ _ => dg_name (pg_name sc_all_rows.nd rfl (by first | exact Or.inl rfl | exact Or.inr rfl) (by first | exact .inl rfl | exact .inr rfl))) (fun _ _ _ _ _ => dts_one (dt_ne rfl Bun.kit (Bun.eqOk (eqRow B (by decide)) i.blk) i.blk.room.units (DE.toR (de_call (Bun.call (ok_ways_by B) i.blk (by decide) (Bun.glo 26 rfl)) rfl (da_cons (de_call (Bun.call (ok_sightings_of B) i.blk (by decide) (Bun.glo 36 rfl)) rfl (da_cons (de_slice rfl (DE.toR (de_var (pv 0))) (do_none) (do_some (de_op op_addD rd_add (DE.toR (de_var (pv 4))) (DE.toR (de_const pe_int (fun _ => Rep.int _)))))) (da_cons (de_var (pv 6)) (da_nil) rfl) rfl) rfl rfl rfl) (da_nil) rfl) rfl rfl rfl)) (de_tup (da_nil)) rfl)) (fun _ _ _ _ _ => de_var (pv 6)) (by decide) (fun _ => rfl) rfl) (dss_nil))) (fun _ => rfl)) (dss_cons (ds_app (pv 1) (de_var (pv 3)) rfl rfl rfl rfl rfl rfl) (dss_nil)))) (fun _ => rfl)) (dss_cons (ds_frz (ds_ret (de_var (pv 1)))) (dss_nil))))
def N_sortings : List Str := ["nights", "most", "rows", "found", "line", "one", "row"]
theorem sc_sortings : FnScope N_sortings ["nights", "most"] (defScope (top 56)) := ⟨rfl, rfl, rfl, by decide +kernel, rfl, by decide +kernel, by decide +kernel⟩
def S_sortings : SemS := sSeq (sDrop (dCall 1 F_check_nights (dCons (dV 0) (dNil)))) (sSeq (sIf (dNotB (dTru (dCall 3 F_is_number (dCons (dV 1) (dCons (dC (.int 1)) (dCons (dC (.int 999)) (dNil))))))) (sFail) (sNext)) (sSeq (sPar3o 2 3 4 (dCall 1 F_all_rows (dCons (dV 0) (dNil))) (dNil) (dCons (dTup (dNil)) (dNil))) (sSeq (sWh (fuelN 100000) (dAndB (dEqB eqT true (dVR 4) (dLst (dNil))) (dBinB cLt (dBi bLen (dCons (dVR 3) (dNil))) (dV 1))) (sSeq (sPop0 4 5) (sSeq (sIf (dEqB eqT false (dBi bLen (dCons (dV 5) (dNil))) (dBi bLen (dCons (dV 2) (dNil)))) (sSeq (sApp 3 (dV 5)) (sSeq (sCnt) (sNext))) (sNext)) (sSeq (sOwnAdd (dLc [6] (dItems (dBin D.ix (dV 2) (dBi bLen (dCons (dV 5) (dNil))))) (tgName 6) (dTru (dCall 2 F_are_free (dCons (dV 5) (dCons (dV 6) (dNil))))) (dTup (dStar (dV 5) (dCons (dV 6) (dNil))))) (dVR 4) 4) (sSeq (sIf (dBinB cGtA (dBi bLen (dCons (dVR 4) (dNil))) (dC (.int 9999))) (sFail) (sNext)) (sNext)))))) (sSeq (sFrz 3 (sRet (dV 3))) (sNext)))))
def F_sortings : Fn := runB 7 (S_sortings)
theorem ok_sortings (B : Bn) : B.Ok ("sortings", none) 9 2 (F_sortings) := by
  obtain ⟨fd, F⟩ := B.say.def_ (d := dd_sortings) 61 rfl
  exact Bun.ok (k := 8) (N := N_sortings) (ps := ["nights", "most"]) (S := S_sortings) F sc_sortings (fun _ _ _ _ _ _ us hl => match us, hl with | [_, _], _ => rfl) fun da me cdv A outer s H E i => (show DSs (B.G da me) (B.X N_sortings dd_sortings.qual dd_sortings.scope (He.fAd B.K ("sortings", none)) cdv A outer s H E) (defBody (top 56)) (S_sortings) from dss_cons (ds_expr (de_call (Bun.call (ok_check_nights B) i (by decide) (Bun.glo 34 rfl)) rfl (da_cons (de_var (pv 0)) (da_nil) rfl) rfl rfl rfl) rfl) (dss_cons (ds_if (dt_not (dt_tru rfl (DE.toR (de_call (Bun.call (ok_is_number B) i (by decide) (Bun.glo 2 rfl)) rfl (da_cons (de_var (pv 1)) (da_cons (de_const pe_int (fun _ => Rep.int _)) (da_cons (de_const pe_int (fun _ => Rep.int _)) (da_nil) rfl) rfl) rfl) rfl rfl rfl)) (fun _ => rfl))) (dss_fail) (dss_nil)) (dss_cons (ds_par3o (de_call (Bun.call (ok_all_rows B) i (by decide) (Bun.glo 37 rfl)) rfl (da_cons (de_var (pv 0)) (da_nil) rfl) rfl rfl rfl) (da_nil) (da_cons (de_tup (da_nil)) (da_nil) rfl) rfl rfl rfl (fun ta ha => ps_par3 (i := 2) (j := 3) (l := 4) rfl sc_sortings.nd rfl rfl rfl (by decide) (by decide) (by decide) rfl rfl rfl ha rfl rfl)) (dss_cons (ds_wh (fuelN 100000) PassesOwn.never (PW.pt (dw_and (dt_ne rfl Bun.kit (Bun.eqOk (eqRow B (by decide)) i) i.room.units (dr_var (pv 4)) (de_lst (da_nil)) rfl) (dw_and1 (dc_test op_lt rd_lt (DE.toR (de_callB call_len bLen_ok rfl (Bun.free 54 rfl) (by decide +kernel) (dra_cons (dr_var (pv 3)) (dra_nil) rfl) (by decide) rfl rfl rfl)) (DE.toR (de_var (pv 1))) rfl)))) (dss_cons (ds_pop0 (pv 4) rfl rfl rfl rfl rfl (fun te h => ps_set (i := 5) sc_sortings.nd rfl (by first | exact Or.inl rfl | exact Or.inr rfl) h rfl)) (dss_cons (ds_if (dt_eq rfl Bun.kit (Bun.eqOk (eqRow B (by decide)) i) i.room.units (DE.toR (de_callB call_len bLen_ok rfl (Bun.free 54 rfl) (by decide +kernel) (dra_cons (DE.toR (de_var (pv 5))) (dra_nil) rfl) (by decide) rfl rfl rfl)) (de_callB call_len bLen_ok rfl (Bun.free 54 rfl) (by decide +kernel) (dra_cons (DE.toR (de_var (pv 2))) (dra_nil) rfl) (by decide) rfl rfl rfl) rfl) (dss_cons (ds_app (pv 3) (de_var (pv 5)) rfl rfl rfl rfl rfl rfl) (dss_cons (ds_cnt) (dss_nil))) (dss_nil)) (dss_cons (ds_ownAdd (DE.toR (de_lc rfl sc_sortings.nd (di_seq rfl (de_ix rfl (DE.toR (de_var (pv 2))) (DE.toR (de_callB call_len bLen_ok rfl (Bun.free 54 rfl) (by decide +kernel) (dra_cons (DE.toR (de_var (pv 5))) (dra_nil) rfl) (by decide) rfl rfl rfl)) (fun _ _ => rfl))) (blkOk_by (own := [("row", 6)]) rfl) (fun _ _ _ _ _ => dg_name (pg_name sc_sortings.nd rfl (by first | exact Or.inl rfl | exact Or.inr rfl) (by first | exact .inl rfl | exact .inr rfl))) (fun _ _ _ _ _ => dts_one (dt_tru rfl (DE.toR (de_call (Bun.call (ok_are_free B) i.blk (by decide) (Bun.glo 39 rfl)) rfl (da_cons (de_var (pv 5)) (da_cons (de_var (pv 6)) (da_nil) rfl) rfl) rfl rfl rfl)) (fun _ => rfl))) (fun _ _ _ _ _ => de_tup (da_star rfl (de_var (pv 5)) (da_cons (de_var (pv 6)) (da_nil) rfl) rfl)) (by decide) (fun _ => rfl) rfl)) (dr_var (pv 4)) (fun te h => ps_set (i := 4) sc_sortings.nd rfl (by first | exact Or.inl rfl | exact Or.inr rfl) h rfl) rfl) (dss_cons (ds_if (dc_test (op_gtA i.room.units0) rd_gtA (DE.toR (de_callB call_len bLen_ok rfl (Bun.free 54 rfl) (by decide +kernel) (dra_cons (dr_var (pv 4)) (dra_nil) rfl) (by decide) rfl rfl rfl)) (DE.toR (de_const pe_int (fun _ => Rep.int _))) rfl) (dss_fail) (dss_nil)) (dss_nil)))))) (dss_cons (ds_frz (ds_ret (de_var (pv 3)))) (dss_nil))))))
def N_judge_apart : List Str := ["nights", "found"]
theorem sc_judge_apart : FnScope N_judge_apart ["nights"] (defScope (top 58)) := ⟨rfl, rfl, rfl, by decide +kernel, rfl, by decide +kernel, by decide +kernel⟩
def S_judge_apart : SemS := sSeq (sAsg (dCall 2 F_sortings (dCons (dV 0) (dCons (dC (.int 2)) (dNil)))) (tgName 1)) (sSeq (sIf (dEqB eqT false (dV 1) (dLst (dNil))) (sSeq (sRet (dMake0 .NoBodies)) (sNext)) (sNext)) (sSeq (sRet (dIf (dEqB eqT false (dBi bLen (dCons (dV 1) (dNil))) (dC (.int 1))) (dMake .Apart 1 FI_Apart (dCons (dBin D.ix (dV 1) (dC (.int 0))) (dNil))) (dMake .Mixed 2 FI_Mixed (dCons (dBin D.ix (dV 1) (dC (.int 0))) (dCons (dBin D.ix (dV 1) (dC (.int 1))) (dNil)))))) (sNext)))
def F_judge_apart : Fn := runB 2 (S_judge_apart)
theorem ok_judge_apart (B : Bn) : B.Ok ("judge_apart", none) 10 1 (F_judge_apart) := by
  obtain ⟨fd, F⟩ := B.say.def_ (d := dd_judge_apart) 63 rfl
  exact Bun.ok (k := 9) (N := N_judge_apart) (ps := ["nights"]) (S := S_judge_apart) F sc_judge_apart (fun _ _ _ _ _ _ us hl => match us, hl with | [_], _ => rfl) fun da me cdv A outer s H E i => (show DSs (B.G da me) (B.X N_judge_apart dd_judge_apart.qual dd_judge_apart.scope (He.fAd B.K ("judge_apart", none)) cdv A outer s H E) (defBody (top 58)) (S_judge_apart) from dss_cons (ds_asg (de_call (Bun.call (ok_sortings B) i (by decide) (Bun.glo 38 rfl)) rfl (da_cons (de_var (pv 0)) (da_cons (de_const pe_int (fun _ => Rep.int _)) (da_nil) rfl) rfl) rfl rfl rfl) (dg_name (pg_name sc_judge_apart.nd rfl (by first | exact Or.inl rfl | exact Or.inr rfl) (by first | exact .inl rfl | exact .inr rfl))) rfl rfl rfl) (dss_cons (ds_if (dt_eq rfl Bun.kit (Bun.eqOk (eqRow B (by decide)) i) i.room.units (DE.toR (de_var (pv 1))) (de_lst (da_nil)) rfl) (dss_cons (ds_ret (de_make0 (Bun.make0 i rfl (by decide) rfl (Bun.glo 52 rfl) (B.say.fact 52 rfl)) rfl (by decide))) (dss_nil)) (dss_nil)) (dss_cons (ds_ret (de_if (dt_eq rfl Bun.kit (Bun.eqOk (eqRow B (by decide)) i) i.room.units (DE.toR (de_callB call_len bLen_ok rfl (Bun.free 54 rfl) (by decide +kernel) (dra_cons (DE.toR (de_var (pv 1))) (dra_nil) rfl) (by decide) rfl rfl rfl)) (de_const pe_int (fun _ => Rep.int _)) rfl) (de_make (Bun.make (ok_Apart___init__ B) i (by decide) rfl (Bun.glo 50 rfl) (B.say.fact 82 rfl) (B.say.fact 50 rfl)) rfl (da_cons (de_ix rfl (DE.toR (de_var (pv 1))) (DE.toR (de_const pe_int (fun _ => Rep.int _))) (fun _ _ => rfl)) (da_nil) rfl) rfl rfl rfl) (de_make (Bun.make (ok_Mixed___init__ B) i (by decide) rfl (Bun.glo 51 rfl) (B.say.fact 86 rfl) (B.say.fact 51 rfl)) rfl (da_cons (de_ix rfl (DE.toR (de_var (pv 1))) (DE.toR (de_const pe_int (fun _ => Rep.int _))) (fun _ _ => rfl)) (da_cons (de_ix rfl (DE.toR (de_var (pv 1))) (DE.toR (de_const pe_int (fun _ => Rep.int _))) (fun _ _ => rfl)) (da_nil) rfl) rfl) rfl rfl rfl))) (dss_nil))))
def N_law : List Str := ["script", "draw", "turn", "way", "last", "back", "circle", "nights", "rows", "late", "found", "other", "free", "bent", "turned", "pair", "home", "theirs", "lots", "mirrored", "left", "right", "number", "night", "one", "again", "direction", "points"]
theorem sc_law : FnScope N_law ["script"] (defScope (top 65)) := ⟨rfl, rfl, rfl, by decide +kernel, rfl, by decide +kernel, by decide +kernel⟩
def S_law (ns : List Int) : SemS := sSeq (sFor (dRng (dCons (dC (.int 6)) dNil)) (tgName 2) (sSeq (sAsg (dTup (dCons (dCall 1 (F__law_way ns) (dCons (dV 1) (dNil))) (dCons (dBin D.add (dC (.int 6)) (dCall 2 (F__law_take ns) (dCons (dV 1) (dCons (dC (.int 6)) (dNil))))) (dNil)))) (tgTup 2 (tgsCons (tgName 3) (tgsCons (tgName 4) (tgsNil))))) (sSeq (sAsg (dTup (dCons (dBi bTup (dCons (dLc [20, 21] (dZip (dCons (dBin D.ix (dV 3) (dC (.int 0))) (dCons (dBin D.ix (dV 3) (dC (.int 1))) (dNil)))) (tgTup 2 (tgsCons (tgName 20) (tgsCons (tgName 21) (tgsNil)))) (dTrue) (dBin D.add (dV 20) (dBin D.mul (dV 4) (dV 21)))) (dNil))) (dCons (dBi bTup (dCons (dLc [22] (dItems (dBin D.ix (dV 3) (dC (.int 1)))) (tgName 22) (dTrue) (dBin D.sub (dC (.int 0)) (dV 22))) (dNil))) (dNil)))) (tgName 5)) (sSeq (sIf (dTru (dBi bAny (dCons (dLc [23] (dRng (dCons (dBin D.add (dV 4) (dC (.int 1))) dNil)) (tgName 23) (dTrue) (dOrV (dEq eqT true (dCall 2 F_at_night (dCons (dV 5) (dCons (dV 23) (dNil)))) (dCall 2 F_at_night (dCons (dV 3) (dCons (dBin D.sub (dV 4) (dV 23)) (dNil))))) (dEq eqT true (dCall 2 F_seen (dCons (dV 5) (dCons (dV 23) (dNil)))) (dCall 2 F_seen (dCons (dV 3) (dCons (dBin D.sub (dV 4) (dV 23)) (dNil))))))) (dNil)))) (sSeq (sRet (dC (.bl false))) (sNext)) (sNext)) (sSeq (sAsg (dCall 1 F_circle_of (dCons (dV 3) (dNil))) (tgName 6)) (sSeq (sIf (dBinB cIsNot (dV 6) (dC .non)) (sSeq (sIf (dOrB (dEqB eqT true (dCall 1 F_circle_of (dCons (dV 5) (dNil))) (dBi bTup (dCons (dLc [22] (dItems (dV 6)) (tgName 22) (dTrue) (dBin D.sub (dC (.int 0)) (dV 22))) (dNil)))) (dTru (dBi bAny (dCons (dLc [24] (dItems (dLc [25] (dRng (dCons (dC (.int 4)) dNil)) (tgName 25) (dTrue) (dCall 1 (F__law_sky ns) (dCons (dV 1) (dNil))))) (tgName 24) (dTrue) (dEq eqT true (dCall 2 F_side_of (dCons (dV 5) (dCons (dV 24) (dNil)))) (dBin D.sub (dC (.int 0)) (dCall 2 F_side_of (dCons (dV 3) (dCons (dV 24) (dNil))))))) (dNil))))) (sSeq (sRet (dC (.bl false))) (sNext)) (sNext)) (sSeq (sAsg (dLst (dCons (dC (.int 0)) (dCons (dBin D.add (dC (.int 2)) (dCall 2 (F__law_take ns) (dCons (dV 1) (dCons (dC (.int 2)) (dNil))))) (dCons (dC (.int 4)) (dCons (dV 4) (dNil)))))) (tgName 7)) (sSeq (sAsg (dLc [23] (dItems (dV 7)) (tgName 23) (dTrue) (dTup (dCons (dV 23) (dCons (dCall 2 F_seen (dCons (dV 3) (dCons (dV 23) (dNil)))) (dNil))))) (tgName 8)) (sSeq (sAsg (dLc [23, 26] (dItems (dUn D.rev (dV 8))) (tgTup 2 (tgsCons (tgName 23) (tgsCons (tgName 26) (tgsNil)))) (dTrue) (dTup (dCons (dBin D.sub (dV 4) (dV 23)) (dCons (dV 26) (dNil))))) (tgName 9)) (sSeq (sAsg (dTup (dCons (dCall 1 F_judge_way (dCons (dV 8) (dNil))) (dCons (dCall 1 F_judge_way (dCons (dV 9) (dNil))) (dNil)))) (tgTup 2 (tgsCons (tgName 10) (tgsCons (tgName 11) (tgsNil))))) (sSeq (sIf (dOrB (dNotB (dTru (dIsi (.own .Way) (dV 10)))) (dOrB (dNotB (dTru (dIsi (.own .Way) (dV 11)))) (dOrB (dNotB (dTru (dCall 2 F_is_seen (dCons (dTup (dCons (dFld "start" (dV 10)) (dCons (dFld "step" (dV 10)) (dNil)))) (dCons (dV 8) (dNil)))))) (dNotB (dTru (dCall 2 F_is_seen (dCons (dTup (dCons (dFld "start" (dV 11)) (dCons (dFld "step" (dV 11)) (dNil)))) (dCons (dV 9) (dNil))))))))) (sSeq (sRet (dC (.bl false))) (sNext)) (sNext)) (sSeq (sIf (dTru (dBi bAny (dCons (dLc [23] (dRng (dCons (dBin D.add (dV 4) (dC (.int 1))) dNil)) (tgName 23) (dTrue) (dEq eqT true (dCall 2 F_seen (dCons (dTup (dCons (dFld "start" (dV 11)) (dCons (dFld "step" (dV 11)) (dNil)))) (dCons (dV 23) (dNil)))) (dCall 2 F_seen (dCons (dTup (dCons (dFld "start" (dV 10)) (dCons (dFld "step" (dV 10)) (dNil)))) (dCons (dBin D.sub (dV 4) (dV 23)) (dNil)))))) (dNil)))) (sSeq (sRet (dC (.bl false))) (sNext)) (sNext)) (sSeq (sAsg (dCall 1 (F__law_sky ns) (dCons (dV 1) (dNil))) (tgName 12)) (sSeq (sPar2 13 14 (dBin D.add (dBin D.add (dSl (dV 8) (dNoPart) (dPart (dC (.int 2)))) (dLst (dCons (dTup (dCons (dBin D.ix (dV 7) (dC (.int 2))) (dCons (dV 12) (dNil)))) (dNil)))) (dSl (dV 8) (dPart (dC (.int 3))) (dNoPart))) (dLc [23, 26] (dItems (dUn D.rev (dBin D.add (dBin D.add (dSl (dV 8) (dNoPart) (dPart (dC (.int 2)))) (dLst (dCons (dTup (dCons (dBin D.ix (dV 7) (dC (.int 2))) (dCons (dV 12) (dNil)))) (dNil)))) (dSl (dV 8) (dPart (dC (.int 3))) (dNoPart))))) (tgTup 2 (tgsCons (tgName 23) (tgsCons (tgName 26) (tgsNil)))) (dTrue) (dTup (dCons (dBin D.sub (dV 4) (dV 23)) (dCons (dV 26) (dNil)))))) (sSeq (sIf (dEqB eqT true (dIsi (.own .NoWay) (dCall 1 F_judge_way (dCons (dV 13) (dNil)))) (dIsi (.own .NoWay) (dCall 1 F_judge_way (dCons (dV 14) (dNil))))) (sSeq (sRet (dC (.bl false))) (sNext)) (sNext)) (sSeq (sAsg (dTup (dCons (dLst (dCons (dBin D.ix (dV 8) (dC (.int 0))) (dCons (dBin D.ix (dV 8) (dUn D.neg (dC (.int 1)))) (dNil)))) (dCons (dLst (dCons (dBin D.ix (dV 9) (dC (.int 0))) (dCons (dBin D.ix (dV 9) (dUn D.neg (dC (.int 1)))) (dNil)))) (dNil)))) (tgTup 2 (tgsCons (tgName 15) (tgsCons (tgName 16) (tgsNil))))) (sSeq (sIf (dTru (dBi bAny (dCons (dLc [23] (dRng (dCons (dC (.int 1)) (dCons (dV 4) dNil))) (tgName 23) (dTrue) (dEq eqT true (dCall 3 F_is_within (dCons (dV 15) (dCons (dV 23) (dCons (dV 12) (dNil))))) (dCall 3 F_is_within (dCons (dV 16) (dCons (dBin D.sub (dV 4) (dV 23)) (dCons (dV 12) (dNil))))))) (dNil)))) (sSeq (sRet (dC (.bl false))) (sNext)) (sNext)) (sNext))))))))))))) (sNext)) (sSeq (sAsg (dCall 1 (F__law_way ns) (dCons (dV 1) (dNil))) (tgName 11)) (sSeq (sAsg (dTup (dCons (dBi bTup (dCons (dLc [20, 21] (dZip (dCons (dBin D.ix (dV 11) (dC (.int 0))) (dCons (dBin D.ix (dV 11) (dC (.int 1))) (dNil)))) (tgTup 2 (tgsCons (tgName 20) (tgsCons (tgName 21) (tgsNil)))) (dTrue) (dBin D.add (dV 20) (dBin D.mul (dV 4) (dV 21)))) (dNil))) (dCons (dBi bTup (dCons (dLc [22] (dItems (dBin D.ix (dV 11) (dC (.int 1)))) (tgName 22) (dTrue) (dBin D.sub (dC (.int 0)) (dV 22))) (dNil))) (dNil)))) (tgName 17)) (sSeq (sIf (dEqB eqT true (dBi bLst (dCons (dCall 3 F_nights_alike (dCons (dV 5) (dCons (dV 17) (dCons (dV 4) (dNil))))) (dNil))) (dBi bSorted (dCons (dLc [23] (dItems (dCall 3 F_nights_alike (dCons (dV 3) (dCons (dV 11) (dCons (dV 4) (dNil)))))) (tgName 23) (dTrue) (dBin D.sub (dV 4) (dV 23))) (dNil)))) (sSeq (sRet (dC (.bl false))) (sNext)) (sNext)) (sSeq (sAsg (dLc [23] (dItems (dTup (dCons (dC (.int 0)) (dCons (dC (.int 3)) (dCons (dV 4) (dNil)))))) (tgName 23) (dTrue) (dTup (dCons (dV 23) (dCons (dLst (dCons (dCall 2 F_seen (dCons (dV 3) (dCons (dV 23) (dNil)))) (dCons (dCall 2 F_seen (dCons (dV 11) (dCons (dV 23) (dNil)))) (dNil)))) (dNil))))) (tgName 18)) (sSeq (sIf (dNotB (dTru (dBi bAny (dCons (dLc [23, 27] (dItems (dV 18)) (tgTup 2 (tgsCons (tgName 23) (tgsCons (tgName 27) (tgsNil)))) (dTrue) (dOrV (dBin (fun x y => (cIn x y).map D.bl) (dC .non) (dV 27)) (dEq eqT false (dBin D.ix (dV 27) (dC (.int 0))) (dBin D.ix (dV 27) (dC (.int 1)))))) (dNil))))) (sSeq (sAsg (dLc [23, 27] (dItems (dUn D.rev (dV 18))) (tgTup 2 (tgsCons (tgName 23) (tgsCons (tgName 27) (tgsNil)))) (dTrue) (dTup (dCons (dBin D.sub (dV 4) (dV 23)) (dCons (dV 27) (dNil))))) (tgName 19)) (sSeq (sIf (dOrB (dEqB eqT true (dBi bLen (dCons (dCall 2 F_sortings (dCons (dV 18) (dCons (dC (.int 9)) (dNil)))) (dNil))) (dBi bLen (dCons (dCall 2 F_sortings (dCons (dV 19) (dCons (dC (.int 9)) (dNil)))) (dNil)))) (dAndB (dEqB eqT true (dCall 2 F_sortings (dCons (dV 18) (dCons (dC (.int 9)) (dNil)))) (dLst (dNil))) (dEqB eqT true (dBoI boT (dCall 1 F_judge_apart (dCons (dV 18) (dNil)))) (dBoI boT (dCall 1 F_judge_apart (dCons (dV 19) (dNil))))))) (sSeq (sRet (dC (.bl false))) (sNext)) (sNext)) (sNext))) (sNext)) (sNext)))))))))))) (sSeq (sRet (dC (.bl true))) (sNext))
def E_law : Env := .val .scr :: .val .drw :: List.replicate 26 .no
theorem ok_law (B : Bn) {fd : FuncData} (F : FunD B.K dd_law.name dd_law.qual dd_law.params dd_law.body dd_law.scope (dd_law.dvs B.K) (dd_law.kws B.K) (He.fAd B.K dd_law.at_) fd) (hr : ∃ k', S_law B.ns E_law 0 = some (.ret (.bl true), k')) : FnOk B.P B.w B.K B.mg B.base CX0 11 (He.fAd B.K ("law", none)) fd ["script"] (spLaw B.K B.sa B.ns) := by
  refine law_fn (cls := clsG B.K) (k := 10) (N := N_law.drop 2) (B := S_law B.ns) F sc_law (by first | exact Or.inl rfl | exact Or.inr rfl) (by first | exact Or.inl rfl | exact Or.inr rfl) (fun _ _ _ _ _ _ => rfl) (fun da cdv A outer s H E hr => ?_) hr
  have i : B.In (B.X N_law dd_law.qual dd_law.scope (He.fAd B.K ("law", none)) cdv A outer s H E) 10 := ⟨rfl, rfl, rfl, rfl, rfl, hr⟩
  exact (show DSs (B.G (some da) none) (B.X N_law dd_law.qual dd_law.scope (He.fAd B.K ("law", none)) cdv A outer s H E) ((defBody (top 65)).tail) (S_law B.ns) from dss_cons (ds_for PassesOwn.never rfl (di_range1 rfl (Bun.free 60 rfl) (de_const pe_int (fun _ => Rep.int _)) rfl) (dg_name (pg_name sc_law.nd rfl (by first | exact Or.inl rfl | exact Or.inr rfl) (by first | exact .inl rfl | exact .inr rfl))) (dss_cons (ds_asg (de_tup (da_cons (de_call (Bun.call (ok__law_way B) i (by decide) (Bun.glo 45 rfl)) rfl (da_cons (de_var (pv 1)) (da_nil) rfl) rfl rfl rfl) (da_cons (de_op op_addD rd_add (DE.toR (de_const pe_int (fun _ => Rep.int _))) (DE.toR (de_call (Bun.call (ok__law_take B) i (by decide) (Bun.glo 42 rfl)) rfl (da_cons (de_var (pv 1)) (da_cons (de_const pe_int (fun _ => Rep.int _)) (da_nil) rfl) rfl) rfl rfl rfl))) (da_nil) rfl) rfl)) (dg_tup rfl rfl (dgs_cons (dg_name (pg_name sc_law.nd rfl (by first | exact Or.inl rfl | exact Or.inr rfl) (by first | exact .inl rfl | exact .inr rfl))) (dgs_cons (dg_name (pg_name sc_law.nd rfl (by first | exact Or.inl rfl | exact Or.inr rfl) (by first | exact .inl rfl | exact .inr rfl))) (dgs_nil) rfl) rfl) rfl rfl) rfl rfl rfl) (dss_cons (ds_asg (de_tup (da_cons (de_callT call_tuple_of bTup_ok rfl (Bun.free 61 rfl) (by decide +kernel) (dra_cons (DE.toR (de_lc rfl sc_law.nd (di_zip rfl rfl (Bun.free 58 rfl) (da_cons (de_ix rfl (DE.toR (de_var (pv 3))) (DE.toR (de_const pe_int (fun _ => Rep.int _))) (fun _ _ => rfl)) (da_cons (de_ix rfl (DE.toR (de_var (pv 3))) (DE.toR (de_const pe_int (fun _ => Rep.int _))) (fun _ _ => rfl)) (da_nil) rfl) rfl) (fun h => RZ.pi_zipA rfl (Bun.free 58 rfl) h)) (blkOk_by (own := [("left", 20), ("right", 21)]) rfl) (fun _ _ _ _ _ => dg_tup rfl rfl (dgs_cons (dg_name (pg_name sc_law.nd rfl (by first | exact Or.inl rfl | exact Or.inr rfl) (by first | exact .inl rfl | exact .inr rfl))) (dgs_cons (dg_name (pg_name sc_law.nd rfl (by first | exact Or.inl rfl | exact Or.inr rfl) (by first | exact .inl rfl | exact .inr rfl))) (dgs_nil) rfl) rfl) rfl rfl) (fun _ _ _ _ _ => dts_nil) (fun _ _ _ _ _ => de_op op_addD rd_add (DE.toR (de_var (pv 20))) (DE.toR (de_op op_mulX rd_mul (DE.toR (de_var (pv 4))) (DE.toR (de_var (pv 21)))))) (by decide) (fun _ => rfl) rfl)) (dra_nil) rfl) (by decide) rfl rfl rfl) (da_cons (de_callT call_tuple_of bTup_ok rfl (Bun.free 61 rfl) (by decide +kernel) (dra_cons (DE.toR (de_lc rfl sc_law.nd (di_seq rfl (de_ix rfl (DE.toR (de_var (pv 3))) (DE.toR (de_const pe_int (fun _ => Rep.int _))) (fun _ _ => rfl))) (blkOk_by (own := [("number", 22)]) rfl) (fun _ _ _ _ _ => dg_name (pg_name sc_law.nd rfl (by first | exact Or.inl rfl | exact Or.inr rfl) (by first | exact .inl rfl | exact .inr rfl))) (fun _ _ _ _ _ => dts_nil) (fun _ _ _ _ _ => de_op op_sub rd_sub (DE.toR (de_const pe_int (fun _ => Rep.int _))) (DE.toR (de_var (pv 22)))) (by decide) (fun _ => rfl) rfl)) (dra_nil) rfl) (by decide) rfl rfl rfl) (da_nil) rfl) rfl)) (dg_name (pg_name sc_law.nd rfl (by first | exact Or.inl rfl | exact Or.inr rfl) (by first | exact .inl rfl | exact .inr rfl))) rfl rfl rfl) (dss_cons (ds_if (dt_tru rfl (DE.toR (de_callB (cr_any rfl) bAny_ok rfl (Bun.free 56 rfl) (by decide +kernel) (dra_cons (DE.toR (de_lc rfl sc_law.nd (di_range1 rfl (Bun.free 60 rfl) (de_op op_addD rd_add (DE.toR (de_var (pv 4))) (DE.toR (de_const pe_int (fun _ => Rep.int _)))) rfl) (blkOk_by (own := [("night", 23)]) rfl) (fun _ _ _ _ _ => dg_name (pg_name sc_law.nd rfl (by first | exact Or.inl rfl | exact Or.inr rfl) (by first | exact .inl rfl | exact .inr rfl))) (fun _ _ _ _ _ => dts_nil) (fun _ _ _ _ _ => de_or rfl (de_ne rfl Bun.kit (Bun.eqOk (eqRow B (by decide)) i.blk) i.blk.room.units (DE.toR (de_call (Bun.call (ok_at_night B) i.blk (by decide) (Bun.glo 21 rfl)) rfl (da_cons (de_var (pv 5)) (da_cons (de_var (pv 23)) (da_nil) rfl) rfl) rfl rfl rfl)) (de_call (Bun.call (ok_at_night B) i.blk (by decide) (Bun.glo 21 rfl)) rfl (da_cons (de_var (pv 3)) (da_cons (de_op op_sub rd_sub (DE.toR (de_var (pv 4))) (DE.toR (de_var (pv 23)))) (da_nil) rfl) rfl) rfl rfl rfl) rfl) (de_one (de_ne rfl Bun.kit (Bun.eqOk (eqRow B (by decide)) i.blk) i.blk.room.units (DE.toR (de_call (Bun.call (ok_seen B) i.blk (by decide) (Bun.glo 22 rfl)) rfl (da_cons (de_var (pv 5)) (da_cons (de_var (pv 23)) (da_nil) rfl) rfl) rfl rfl rfl)) (de_call (Bun.call (ok_seen B) i.blk (by decide) (Bun.glo 22 rfl)) rfl (da_cons (de_var (pv 3)) (da_cons (de_op op_sub rd_sub (DE.toR (de_var (pv 4))) (DE.toR (de_var (pv 23)))) (da_nil) rfl) rfl) rfl rfl rfl) rfl))) (by decide) (fun _ => rfl) rfl)) (dra_nil) rfl) (by decide) rfl rfl rfl)) (fun _ => rfl)) (dss_cons (ds_ret (de_const pe_bl (fun _ => Rep.bl _))) (dss_nil)) (dss_nil)) (dss_cons (ds_asg (de_call (Bun.call (ok_circle_of B) i (by decide) (Bun.glo 31 rfl)) rfl (da_cons (de_var (pv 3)) (da_nil) rfl) rfl rfl rfl) (dg_name (pg_name sc_law.nd rfl (by first | exact Or.inl rfl | exact Or.inr rfl) (by first | exact .inl rfl | exact .inr rfl))) rfl rfl rfl) (dss_cons (ds_if (dc_test op_isNotD rd_isNot (DE.toR (de_var (pv 6))) (DE.toR (de_const pe_non (fun _ => Rep.non))) rfl) (dss_cons (ds_if (PW.pt (dw_or (dt_ne rfl Bun.kit (Bun.eqOk (eqRow B (by decide)) i) i.room.units (DE.toR (de_call (Bun.call (ok_circle_of B) i (by decide) (Bun.glo 31 rfl)) rfl (da_cons (de_var (pv 5)) (da_nil) rfl) rfl rfl rfl)) (de_callT call_tuple_of bTup_ok rfl (Bun.free 61 rfl) (by decide +kernel) (dra_cons (DE.toR (de_lc rfl sc_law.nd (di_seq rfl (de_var (pv 6))) (blkOk_by (own := [("number", 22)]) rfl) (fun _ _ _ _ _ => dg_name (pg_name sc_law.nd rfl (by first | exact Or.inl rfl | exact Or.inr rfl) (by first | exact .inl rfl | exact .inr rfl))) (fun _ _ _ _ _ => dts_nil) (fun _ _ _ _ _ => de_op op_sub rd_sub (DE.toR (de_const pe_int (fun _ => Rep.int _))) (DE.toR (de_var (pv 22)))) (by decide) (fun _ => rfl) rfl)) (dra_nil) rfl) (by decide) rfl rfl rfl) rfl) (dw_or1 (dt_tru rfl (DE.toR (de_callB (cr_any rfl) bAny_ok rfl (Bun.free 56 rfl) (by decide +kernel) (dra_cons (DE.toR (de_lc rfl sc_law.nd (di_seq rfl (de_lc rfl sc_law.nd (di_range1 rfl (Bun.free 60 rfl) (de_const pe_int (fun _ => Rep.int _)) rfl) (blkOk_by (own := [("again", 25)]) rfl) (fun _ _ _ _ _ => dg_name (pg_name sc_law.nd rfl (by first | exact Or.inl rfl | exact Or.inr rfl) (by first | exact .inl rfl | exact .inr rfl))) (fun _ _ _ _ _ => dts_nil) (fun _ _ _ _ _ => de_call (Bun.call (ok__law_sky B) i.blk (by decide) (Bun.glo 44 rfl)) rfl (da_cons (de_var (pv 1)) (da_nil) rfl) rfl rfl rfl) (by decide) (fun _ => rfl) rfl)) (blkOk_by (own := [("one", 24)]) rfl) (fun _ _ _ _ _ => dg_name (pg_name sc_law.nd rfl (by first | exact Or.inl rfl | exact Or.inr rfl) (by first | exact .inl rfl | exact .inr rfl))) (fun _ _ _ _ _ => dts_nil) (fun _ _ _ _ _ => de_ne rfl Bun.kit (Bun.eqOk (eqRow B (by decide)) i.blk) i.blk.room.units (DE.toR (de_call (Bun.call (ok_side_of B) i.blk (by decide) (Bun.glo 32 rfl)) rfl (da_cons (de_var (pv 5)) (da_cons (de_var (pv 24)) (da_nil) rfl) rfl) rfl rfl rfl)) (de_op op_sub rd_sub (DE.toR (de_const pe_int (fun _ => Rep.int _))) (DE.toR (de_call (Bun.call (ok_side_of B) i.blk (by decide) (Bun.glo 32 rfl)) rfl (da_cons (de_var (pv 3)) (da_cons (de_var (pv 24)) (da_nil) rfl) rfl) rfl rfl rfl))) rfl) (by decide) (fun _ => rfl) rfl)) (dra_nil) rfl) (by decide) rfl rfl rfl)) (fun _ => rfl))))) (dss_cons (ds_ret (de_const pe_bl (fun _ => Rep.bl _))) (dss_nil)) (dss_nil)) (dss_cons (ds_asg (de_lst (da_cons (de_const pe_int (fun _ => Rep.int _)) (da_cons (de_op op_addD rd_add (DE.toR (de_const pe_int (fun _ => Rep.int _))) (DE.toR (de_call (Bun.call (ok__law_take B) i (by decide) (Bun.glo 42 rfl)) rfl (da_cons (de_var (pv 1)) (da_cons (de_const pe_int (fun _ => Rep.int _)) (da_nil) rfl) rfl) rfl rfl rfl))) (da_cons (de_const pe_int (fun _ => Rep.int _)) (da_cons (de_var (pv 4)) (da_nil) rfl) rfl) rfl) rfl)) (dg_name (pg_name sc_law.nd rfl (by first | exact Or.inl rfl | exact Or.inr rfl) (by first | exact .inl rfl | exact .inr rfl))) rfl rfl rfl) (dss_cons (ds_setLc (i := 8) rfl sc_law.nd rfl rfl (sw_true rfl rfl rfl rfl) (di_seq rfl (de_var (pv 7))) (blkOk_by (own := [("night", 23)]) rfl) (fun _ _ _ _ _ => dg_name (pg_name sc_law.nd rfl (by first | exact Or.inl rfl | exact Or.inr rfl) (by first | exact .inl rfl | exact .inr rfl))) (fun _ _ _ _ _ => dts_nil) (fun _ _ _ _ _ => de_tup (da_cons (de_var (pv 23)) (da_cons (de_call (Bun.call (ok_seen B) i.blk (by decide) (Bun.glo 22 rfl)) rfl (da_cons (de_var (pv 3)) (da_cons (de_var (pv 23)) (da_nil) rfl) rfl) rfl rfl rfl) (da_nil) rfl) rfl)) (by decide) (fun _ => rfl) rfl) (dss_cons (ds_setLc (i := 9) rfl sc_law.nd rfl rfl (sw_true rfl rfl rfl rfl) (di_seq rfl (de_rev rfl (DE.toR (de_var (pv 8))))) (blkOk_by (own := [("night", 23), ("direction", 26)]) rfl) (fun _ _ _ _ _ => dg_tup rfl rfl (dgs_cons (dg_name (pg_name sc_law.nd rfl (by first | exact Or.inl rfl | exact Or.inr rfl) (by first | exact .inl rfl | exact .inr rfl))) (dgs_cons (dg_name (pg_name sc_law.nd rfl (by first | exact Or.inl rfl | exact Or.inr rfl) (by first | exact .inl rfl | exact .inr rfl))) (dgs_nil) rfl) rfl) rfl rfl) (fun _ _ _ _ _ => dts_nil) (fun _ _ _ _ _ => de_tup (da_cons (de_op op_sub rd_sub (DE.toR (de_var (pv 4))) (DE.toR (de_var (pv 23)))) (da_cons (de_var (pv 26)) (da_nil) rfl) rfl)) (by decide) (fun _ => rfl) rfl) (dss_cons (ds_asg (de_tup (da_cons (de_call (Bun.call (ok_judge_way B) i (by decide) (Bun.glo 27 rfl)) rfl (da_cons (de_var (pv 8)) (da_nil) rfl) rfl rfl rfl) (da_cons (de_call (Bun.call (ok_judge_way B) i (by decide) (Bun.glo 27 rfl)) rfl (da_cons (de_var (pv 9)) (da_nil) rfl) rfl rfl rfl) (da_nil) rfl) rfl)) (dg_tup rfl rfl (dgs_cons (dg_name (pg_name sc_law.nd rfl (by first | exact Or.inl rfl | exact Or.inr rfl) (by first | exact .inl rfl | exact .inr rfl))) (dgs_cons (dg_name (pg_name sc_law.nd rfl (by first | exact Or.inl rfl | exact Or.inr rfl) (by first | exact .inl rfl | exact .inr rfl))) (dgs_nil) rfl) rfl) rfl rfl) rfl rfl rfl) (dss_cons (ds_if (PW.pt (dw_or (dt_not (dt_tru rfl (DE.toR (de_isi rfl Bun.kit rfl (Bun.free 53 rfl) (Bun.klv (B.say.fact 47 rfl)) (DE.toR (de_var (pv 10))) (pe_own rfl (Bun.glo 47 rfl)) rfl rfl rfl)) (fun _ => rfl))) (dw_or (dt_not (dt_tru rfl (DE.toR (de_isi rfl Bun.kit rfl (Bun.free 53 rfl) (Bun.klv (B.say.fact 47 rfl)) (DE.toR (de_var (pv 11))) (pe_own rfl (Bun.glo 47 rfl)) rfl rfl rfl)) (fun _ => rfl))) (dw_or (dt_not (dt_tru rfl (DE.toR (de_call (Bun.call (ok_is_seen B) i (by decide) (Bun.glo 24 rfl)) rfl (da_cons (de_tup (da_cons (de_fld rfl (Bun.kit.cls) (de_var (pv 10)) rfl) (da_cons (de_fld rfl (Bun.kit.cls) (de_var (pv 10)) rfl) (da_nil) rfl) rfl)) (da_cons (de_var (pv 8)) (da_nil) rfl) rfl) rfl rfl rfl)) (fun _ => rfl))) (dw_or1 (dt_not (dt_tru rfl (DE.toR (de_call (Bun.call (ok_is_seen B) i (by decide) (Bun.glo 24 rfl)) rfl (da_cons (de_tup (da_cons (de_fld rfl (Bun.kit.cls) (de_var (pv 11)) rfl) (da_cons (de_fld rfl (Bun.kit.cls) (de_var (pv 11)) rfl) (da_nil) rfl) rfl)) (da_cons (de_var (pv 9)) (da_nil) rfl) rfl) rfl rfl rfl)) (fun _ => rfl)))))))) (dss_cons (ds_ret (de_const pe_bl (fun _ => Rep.bl _))) (dss_nil)) (dss_nil)) (dss_cons (ds_if (dt_tru rfl (DE.toR (de_callB (cr_any rfl) bAny_ok rfl (Bun.free 56 rfl) (by decide +kernel) (dra_cons (DE.toR (de_lc rfl sc_law.nd (di_range1 rfl (Bun.free 60 rfl) (de_op op_addD rd_add (DE.toR (de_var (pv 4))) (DE.toR (de_const pe_int (fun _ => Rep.int _)))) rfl) (blkOk_by (own := [("night", 23)]) rfl) (fun _ _ _ _ _ => dg_name (pg_name sc_law.nd rfl (by first | exact Or.inl rfl | exact Or.inr rfl) (by first | exact .inl rfl | exact .inr rfl))) (fun _ _ _ _ _ => dts_nil) (fun _ _ _ _ _ => de_ne rfl Bun.kit (Bun.eqOk (eqRow B (by decide)) i.blk) i.blk.room.units (DE.toR (de_call (Bun.call (ok_seen B) i.blk (by decide) (Bun.glo 22 rfl)) rfl (da_cons (de_tup (da_cons (de_fld rfl (Bun.kit.cls) (de_var (pv 11)) rfl) (da_cons (de_fld rfl (Bun.kit.cls) (de_var (pv 11)) rfl) (da_nil) rfl) rfl)) (da_cons (de_var (pv 23)) (da_nil) rfl) rfl) rfl rfl rfl)) (de_call (Bun.call (ok_seen B) i.blk (by decide) (Bun.glo 22 rfl)) rfl (da_cons (de_tup (da_cons (de_fld rfl (Bun.kit.cls) (de_var (pv 10)) rfl) (da_cons (de_fld rfl (Bun.kit.cls) (de_var (pv 10)) rfl) (da_nil) rfl) rfl)) (da_cons (de_op op_sub rd_sub (DE.toR (de_var (pv 4))) (DE.toR (de_var (pv 23)))) (da_nil) rfl) rfl) rfl rfl rfl) rfl) (by decide) (fun _ => rfl) rfl)) (dra_nil) rfl) (by decide) rfl rfl rfl)) (fun _ => rfl)) (dss_cons (ds_ret (de_const pe_bl (fun _ => Rep.bl _))) (dss_nil)) (dss_nil)) (dss_cons (ds_asg (de_call (Bun.call (ok__law_sky B) i (by decide) (Bun.glo 44 rfl)) rfl (da_cons (de_var (pv 1)) (da_nil) rfl) rfl rfl rfl) (dg_name (pg_name sc_law.nd rfl (by first | exact Or.inl rfl | exact Or.inr rfl) (by first | exact .inl rfl | exact .inr rfl))) rfl rfl rfl) (dss_cons (ds_par2 (ps_par (i := 13) (j := 14) rfl sc_law.nd rfl rfl (by decide) rfl rfl (da_cons (de_op op_addD rd_add (DE.toR (de_op op_addD rd_add (DE.toR (de_slice rfl (DE.toR (de_var (pv 8))) (do_none) (do_some (de_const pe_int (fun _ => Rep.int _))))) (DE.toR (de_lst (da_cons (de_tup (da_cons (de_ix rfl (DE.toR (de_var (pv 7))) (DE.toR (de_const pe_int (fun _ => Rep.int _))) (fun _ _ => rfl)) (da_cons (de_var (pv 12)) (da_nil) rfl) rfl)) (da_nil) rfl))))) (DE.toR (de_slice rfl (DE.toR (de_var (pv 8))) (do_some (de_const pe_int (fun _ => Rep.int _))) (do_none)))) (da_cons (de_lc rfl sc_law.nd (di_seq rfl (de_rev rfl (DE.toR (de_op op_addD rd_add (DE.toR (de_op op_addD rd_add (DE.toR (de_slice rfl (DE.toR (de_var (pv 8))) (do_none) (do_some (de_const pe_int (fun _ => Rep.int _))))) (DE.toR (de_lst (da_cons (de_tup (da_cons (de_ix rfl (DE.toR (de_var (pv 7))) (DE.toR (de_const pe_int (fun _ => Rep.int _))) (fun _ _ => rfl)) (da_cons (de_var (pv 12)) (da_nil) rfl) rfl)) (da_nil) rfl))))) (DE.toR (de_slice rfl (DE.toR (de_var (pv 8))) (do_some (de_const pe_int (fun _ => Rep.int _))) (do_none))))))) (blkOk_by (own := [("night", 23), ("direction", 26)]) rfl) (fun _ _ _ _ _ => dg_tup rfl rfl (dgs_cons (dg_name (pg_name sc_law.nd rfl (by first | exact Or.inl rfl | exact Or.inr rfl) (by first | exact .inl rfl | exact .inr rfl))) (dgs_cons (dg_name (pg_name sc_law.nd rfl (by first | exact Or.inl rfl | exact Or.inr rfl) (by first | exact .inl rfl | exact .inr rfl))) (dgs_nil) rfl) rfl) rfl rfl) (fun _ _ _ _ _ => dts_nil) (fun _ _ _ _ _ => de_tup (da_cons (de_op op_sub rd_sub (DE.toR (de_var (pv 4))) (DE.toR (de_var (pv 23)))) (da_cons (de_var (pv 26)) (da_nil) rfl) rfl)) (by decide) (fun _ => rfl) rfl) (da_nil) rfl) rfl) rfl rfl)) (dss_cons (ds_if (dt_ne rfl Bun.kit (Bun.eqOk (eqRow B (by decide)) i) i.room.units (DE.toR (de_isi rfl Bun.kit rfl (Bun.free 53 rfl) (Bun.klv (B.say.fact 49 rfl)) (DE.toR (de_call (Bun.call (ok_judge_way B) i (by decide) (Bun.glo 27 rfl)) rfl (da_cons (de_var (pv 13)) (da_nil) rfl) rfl rfl rfl)) (pe_own rfl (Bun.glo 49 rfl)) rfl rfl rfl)) (de_isi rfl Bun.kit rfl (Bun.free 53 rfl) (Bun.klv (B.say.fact 49 rfl)) (DE.toR (de_call (Bun.call (ok_judge_way B) i (by decide) (Bun.glo 27 rfl)) rfl (da_cons (de_var (pv 14)) (da_nil) rfl) rfl rfl rfl)) (pe_own rfl (Bun.glo 49 rfl)) rfl rfl rfl) rfl) (dss_cons (ds_ret (de_const pe_bl (fun _ => Rep.bl _))) (dss_nil)) (dss_nil)) (dss_cons (ds_asg (de_tup (da_cons (de_lst (da_cons (de_ix rfl (DE.toR (de_var (pv 8))) (DE.toR (de_const pe_int (fun _ => Rep.int _))) (fun _ _ => rfl)) (da_cons (de_ix rfl (DE.toR (de_var (pv 8))) (DE.toR (de_neg (de_const pe_int (fun _ => Rep.int _)))) (fun _ _ => rfl)) (da_nil) rfl) rfl)) (da_cons (de_lst (da_cons (de_ix rfl (DE.toR (de_var (pv 9))) (DE.toR (de_const pe_int (fun _ => Rep.int _))) (fun _ _ => rfl)) (da_cons (de_ix rfl (DE.toR (de_var (pv 9))) (DE.toR (de_neg (de_const pe_int (fun _ => Rep.int _)))) (fun _ _ => rfl)) (da_nil) rfl) rfl)) (da_nil) rfl) rfl)) (dg_tup rfl rfl (dgs_cons (dg_name (pg_name sc_law.nd rfl (by first | exact Or.inl rfl | exact Or.inr rfl) (by first | exact .inl rfl | exact .inr rfl))) (dgs_cons (dg_name (pg_name sc_law.nd rfl (by first | exact Or.inl rfl | exact Or.inr rfl) (by first | exact .inl rfl | exact .inr rfl))) (dgs_nil) rfl) rfl) rfl rfl) rfl rfl rfl) (dss_cons (ds_if (dt_tru rfl (DE.toR (de_callB (cr_any rfl) bAny_ok rfl (Bun.free 56 rfl) (by decide +kernel) (dra_cons (DE.toR (de_lc rfl sc_law.nd (di_range2 rfl (Bun.free 60 rfl) (de_const pe_int (fun _ => Rep.int _)) (de_var (pv 4)) rfl rfl) (blkOk_by (own := [("night", 23)]) rfl) (fun _ _ _ _ _ => dg_name (pg_name sc_law.nd rfl (by first | exact Or.inl rfl | exact Or.inr rfl) (by first | exact .inl rfl | exact .inr rfl))) (fun _ _ _ _ _ => dts_nil) (fun _ _ _ _ _ => de_ne rfl Bun.kit (Bun.eqOk (eqRow B (by decide)) i.blk) i.blk.room.units (DE.toR (de_call (Bun.call (ok_is_within B) i.blk (by decide) (Bun.glo 29 rfl)) rfl (da_cons (de_var (pv 15)) (da_cons (de_var (pv 23)) (da_cons (de_var (pv 12)) (da_nil) rfl) rfl) rfl) rfl rfl rfl)) (de_call (Bun.call (ok_is_within B) i.blk (by decide) (Bun.glo 29 rfl)) rfl (da_cons (de_var (pv 16)) (da_cons (de_op op_sub rd_sub (DE.toR (de_var (pv 4))) (DE.toR (de_var (pv 23)))) (da_cons (de_var (pv 12)) (da_nil) rfl) rfl) rfl) rfl rfl rfl) rfl) (by decide) (fun _ => rfl) rfl)) (dra_nil) rfl) (by decide) rfl rfl rfl)) (fun _ => rfl)) (dss_cons (ds_ret (de_const pe_bl (fun _ => Rep.bl _))) (dss_nil)) (dss_nil)) (dss_nil))))))))))))) (dss_nil)) (dss_cons (ds_asg (de_call (Bun.call (ok__law_way B) i (by decide) (Bun.glo 45 rfl)) rfl (da_cons (de_var (pv 1)) (da_nil) rfl) rfl rfl rfl) (dg_name (pg_name sc_law.nd rfl (by first | exact Or.inl rfl | exact Or.inr rfl) (by first | exact .inl rfl | exact .inr rfl))) rfl rfl rfl) (dss_cons (ds_asg (de_tup (da_cons (de_callT call_tuple_of bTup_ok rfl (Bun.free 61 rfl) (by decide +kernel) (dra_cons (DE.toR (de_lc rfl sc_law.nd (di_zip rfl rfl (Bun.free 58 rfl) (da_cons (de_ix rfl (DE.toR (de_var (pv 11))) (DE.toR (de_const pe_int (fun _ => Rep.int _))) (fun _ _ => rfl)) (da_cons (de_ix rfl (DE.toR (de_var (pv 11))) (DE.toR (de_const pe_int (fun _ => Rep.int _))) (fun _ _ => rfl)) (da_nil) rfl) rfl) (fun h => RZ.pi_zipA rfl (Bun.free 58 rfl) h)) (blkOk_by (own := [("left", 20), ("right", 21)]) rfl) (fun _ _ _ _ _ => dg_tup rfl rfl (dgs_cons (dg_name (pg_name sc_law.nd rfl (by first | exact Or.inl rfl | exact Or.inr rfl) (by first | exact .inl rfl | exact .inr rfl))) (dgs_cons (dg_name (pg_name sc_law.nd rfl (by first | exact Or.inl rfl | exact Or.inr rfl) (by first | exact .inl rfl | exact .inr rfl))) (dgs_nil) rfl) rfl) rfl rfl) (fun _ _ _ _ _ => dts_nil) (fun _ _ _ _ _ => de_op op_addD rd_add (DE.toR (de_var (pv 20))) (DE.toR (de_op op_mulX rd_mul (DE.toR (de_var (pv 4))) (DE.toR (de_var (pv 21)))))) (by decide) (fun _ => rfl) rfl)) (dra_nil) rfl) (by decide) rfl rfl rfl) (da_cons (de_callT call_tuple_of bTup_ok rfl (Bun.free 61 rfl) (by decide +kernel) (dra_cons (DE.toR (de_lc rfl sc_law.nd (di_seq rfl (de_ix rfl (DE.toR (de_var (pv 11))) (DE.toR (de_const pe_int (fun _ => Rep.int _))) (fun _ _ => rfl))) (blkOk_by (own := [("number", 22)]) rfl) (fun _ _ _ _ _ => dg_name (pg_name sc_law.nd rfl (by first | exact Or.inl rfl | exact Or.inr rfl) (by first | exact .inl rfl | exact .inr rfl))) (fun _ _ _ _ _ => dts_nil) (fun _ _ _ _ _ => de_op op_sub rd_sub (DE.toR (de_const pe_int (fun _ => Rep.int _))) (DE.toR (de_var (pv 22)))) (by decide) (fun _ => rfl) rfl)) (dra_nil) rfl) (by decide) rfl rfl rfl) (da_nil) rfl) rfl)) (dg_name (pg_name sc_law.nd rfl (by first | exact Or.inl rfl | exact Or.inr rfl) (by first | exact .inl rfl | exact .inr rfl))) rfl rfl rfl) (dss_cons (ds_if (dt_ne rfl Bun.kit (Bun.eqOk (eqRow B (by decide)) i) i.room.units (DE.toR (de_callT call_list_of bLst_ok rfl (Bun.free 62 rfl) (by decide +kernel) (dra_cons (DE.toR (de_call (Bun.call (ok_nights_alike B) i (by decide) (Bun.glo 30 rfl)) rfl (da_cons (de_var (pv 5)) (da_cons (de_var (pv 17)) (da_cons (de_var (pv 4)) (da_nil) rfl) rfl) rfl) rfl rfl rfl)) (dra_nil) rfl) (by decide) rfl rfl rfl)) (de_callB cr_sorted bSorted_ok rfl (Bun.free 64 rfl) (by decide +kernel) (dra_cons (DE.toR (de_lc rfl sc_law.nd (di_seq rfl (de_call (Bun.call (ok_nights_alike B) i (by decide) (Bun.glo 30 rfl)) rfl (da_cons (de_var (pv 3)) (da_cons (de_var (pv 11)) (da_cons (de_var (pv 4)) (da_nil) rfl) rfl) rfl) rfl rfl rfl)) (blkOk_by (own := [("night", 23)]) rfl) (fun _ _ _ _ _ => dg_name (pg_name sc_law.nd rfl (by first | exact Or.inl rfl | exact Or.inr rfl) (by first | exact .inl rfl | exact .inr rfl))) (fun _ _ _ _ _ => dts_nil) (fun _ _ _ _ _ => de_op op_sub rd_sub (DE.toR (de_var (pv 4))) (DE.toR (de_var (pv 23)))) (by decide) (fun _ => rfl) rfl)) (dra_nil) rfl) (by decide) rfl rfl rfl) rfl) (dss_cons (ds_ret (de_const pe_bl (fun _ => Rep.bl _))) (dss_nil)) (dss_nil)) (dss_cons (ds_setLc (i := 18) rfl sc_law.nd rfl rfl (sw_true rfl rfl rfl rfl) (di_seq rfl (de_tup (da_cons (de_const pe_int (fun _ => Rep.int _)) (da_cons (de_const pe_int (fun _ => Rep.int _)) (da_cons (de_var (pv 4)) (da_nil) rfl) rfl) rfl))) (blkOk_by (own := [("night", 23)]) rfl) (fun _ _ _ _ _ => dg_name (pg_name sc_law.nd rfl (by first | exact Or.inl rfl | exact Or.inr rfl) (by first | exact .inl rfl | exact .inr rfl))) (fun _ _ _ _ _ => dts_nil) (fun _ _ _ _ _ => de_tup (da_cons (de_var (pv 23)) (da_cons (de_lst (da_cons (de_call (Bun.call (ok_seen B) i.blk (by decide) (Bun.glo 22 rfl)) rfl (da_cons (de_var (pv 3)) (da_cons (de_var (pv 23)) (da_nil) rfl) rfl) rfl rfl rfl) (da_cons (de_call (Bun.call (ok_seen B) i.blk (by decide) (Bun.glo 22 rfl)) rfl (da_cons (de_var (pv 11)) (da_cons (de_var (pv 23)) (da_nil) rfl) rfl) rfl rfl rfl) (da_nil) rfl) rfl)) (da_nil) rfl) rfl)) (by decide) (fun _ => rfl) rfl) (dss_cons (ds_if (dt_not (dt_tru rfl (DE.toR (de_callB (cr_any rfl) bAny_ok rfl (Bun.free 56 rfl) (by decide +kernel) (dra_cons (DE.toR (de_lc rfl sc_law.nd (di_seq rfl (de_var (pv 18))) (blkOk_by (own := [("night", 23), ("points", 27)]) rfl) (fun _ _ _ _ _ => dg_tup rfl rfl (dgs_cons (dg_name (pg_name sc_law.nd rfl (by first | exact Or.inl rfl | exact Or.inr rfl) (by first | exact .inl rfl | exact .inr rfl))) (dgs_cons (dg_name (pg_name sc_law.nd rfl (by first | exact Or.inl rfl | exact Or.inr rfl) (by first | exact .inl rfl | exact .inr rfl))) (dgs_nil) rfl) rfl) rfl rfl) (fun _ _ _ _ _ => dts_nil) (fun _ _ _ _ _ => de_or rfl (dc_val (op_inX (room65 i.blk.room)) rd_in (DE.toR (de_const pe_non (fun _ => Rep.non))) (DE.toR (de_var (pv 27))) rfl) (de_one (de_eq rfl Bun.kit (Bun.eqOk (eqRow B (by decide)) i.blk) i.blk.room.units (DE.toR (de_ix rfl (DE.toR (de_var (pv 27))) (DE.toR (de_const pe_int (fun _ => Rep.int _))) (fun _ _ => rfl))) (de_ix rfl (DE.toR (de_var (pv 27))) (DE.toR (de_const pe_int (fun _ => Rep.int _))) (fun _ _ => rfl)) rfl))) (by decide) (fun _ => rfl) rfl)) (dra_nil) rfl) (by decide) rfl rfl rfl)) (fun _ => rfl))) (dss_cons (ds_setLc (i := 19) rfl sc_law.nd rfl rfl (sw_true rfl rfl rfl rfl) (di_seq rfl (de_rev rfl (DE.toR (de_var (pv 18))))) (blkOk_by (own := [("night", 23), ("points", 27)]) rfl) (fun _ _ _ _ _ => dg_tup rfl rfl (dgs_cons (dg_name (pg_name sc_law.nd rfl (by first | exact Or.inl rfl | exact Or.inr rfl) (by first | exact .inl rfl | exact .inr rfl))) (dgs_cons (dg_name (pg_name sc_law.nd rfl (by first | exact Or.inl rfl | exact Or.inr rfl) (by first | exact .inl rfl | exact .inr rfl))) (dgs_nil) rfl) rfl) rfl rfl) (fun _ _ _ _ _ => dts_nil) (fun _ _ _ _ _ => de_tup (da_cons (de_op op_sub rd_sub (DE.toR (de_var (pv 4))) (DE.toR (de_var (pv 23)))) (da_cons (de_var (pv 27)) (da_nil) rfl) rfl)) (by decide) (fun _ => rfl) rfl) (dss_cons (ds_if (PW.pt (dw_or (dt_ne rfl Bun.kit (Bun.eqOk (eqRow B (by decide)) i) i.room.units (DE.toR (de_callB call_len bLen_ok rfl (Bun.free 54 rfl) (by decide +kernel) (dra_cons (DE.toR (de_call (Bun.call (ok_sortings B) i (by decide) (Bun.glo 38 rfl)) rfl (da_cons (de_var (pv 18)) (da_cons (de_const pe_int (fun _ => Rep.int _)) (da_nil) rfl) rfl) rfl rfl rfl)) (dra_nil) rfl) (by decide) rfl rfl rfl)) (de_callB call_len bLen_ok rfl (Bun.free 54 rfl) (by decide +kernel) (dra_cons (DE.toR (de_call (Bun.call (ok_sortings B) i (by decide) (Bun.glo 38 rfl)) rfl (da_cons (de_var (pv 19)) (da_cons (de_const pe_int (fun _ => Rep.int _)) (da_nil) rfl) rfl) rfl rfl rfl)) (dra_nil) rfl) (by decide) rfl rfl rfl) rfl) (dw_or1 (PW.pt (dw_and (dt_ne rfl Bun.kit (Bun.eqOk (eqRow B (by decide)) i) i.room.units (DE.toR (de_call (Bun.call (ok_sortings B) i (by decide) (Bun.glo 38 rfl)) rfl (da_cons (de_var (pv 18)) (da_cons (de_const pe_int (fun _ => Rep.int _)) (da_nil) rfl) rfl) rfl rfl rfl)) (de_lst (da_nil)) rfl) (dw_and1 (dt_ne rfl Bun.kit (Bun.eqOk (eqRow B (by decide)) i) i.room.units (DE.toR (de_boI (Bun.boOk (boRow B (by decide)) i) rfl (Bun.free 68 rfl) (de_call (Bun.call (ok_judge_apart B) i (by decide) (Bun.glo 40 rfl)) rfl (da_cons (de_var (pv 18)) (da_nil) rfl) rfl rfl rfl) rfl rfl)) (de_boI (Bun.boOk (boRow B (by decide)) i) rfl (Bun.free 68 rfl) (de_call (Bun.call (ok_judge_apart B) i (by decide) (Bun.glo 40 rfl)) rfl (da_cons (de_var (pv 19)) (da_nil) rfl) rfl rfl rfl) rfl rfl) rfl))))))) (dss_cons (ds_ret (de_const pe_bl (fun _ => Rep.bl _))) (dss_nil)) (dss_nil)) (dss_nil))) (dss_nil)) (dss_nil))))))))))) (fun _ => rfl)) (dss_cons (ds_ret (de_const pe_bl (fun _ => Rep.bl _))) (dss_nil)))
theorem law_holds (hp : ∀ ns : List Int, ns.length ≤ 63 → ∃ k', S_law ns E_law 0 = some (.ret (.bl true), k')) : PySem.Challenge.rw_skyplaced_k91_time_the_other_way.Holds := by
  w_on; o_law
  refine HandSHeadRun.head_any (r := PySem.W.OpenLaw.row PySem.Challenge.rw_skyplaced_k91_time_the_other_way) (q := PySem.W.view (PySem.W.OpenLaw.row PySem.Challenge.rw_skyplaced_k91_time_the_other_way).prog [65]) (H := hk) (ob := ob) (M := 6000) (loose := loose) (d := HandSHeadRun.topDef (PySem.W.OpenLaw.row PySem.Challenge.rw_skyplaced_k91_time_the_other_way).prog 65) (kwd := []) ob_eq
    (by kernel_rfl) (fun s => by kernel_rfl) run (by kernel_rfl) (by kernel_rfl) (by kernel_rfl) (by rfl) (by first | assumption | decide +kernel) (by decide +kernel) ⟨rfl, rfl, rfl, rfl, rfl, by decide +kernel⟩ ?hw ?hc
  case hw => w_witness2
  case hc =>
    refine L2.walk_ofE (l := PySem.Challenge.rw_skyplaced_k91_time_the_other_way) (n := 63) (k := 11) (x := "script") (CX := L2.CX0) rfl (by decide) (by kernel_rfl) ⟨rfl, by decide, by decide⟩ ?F (fun _ _ _ _ z => z)
    intro w mg fa' h Y G hmg0
    obtain ⟨K, KX, c⟩ := Y
    have hmg : mg ("law" : PySem.Str) = some (.ref fa') := by
      have e : (HandSHeadRun.topDef (PySem.W.OpenLaw.row PySem.Challenge.rw_skyplaced_k91_time_the_other_way).prog 65).name = ("law" : PySem.Str) := by kernel_rfl
      rw [← e]
      exact hmg0
    obtain ⟨fd, F⟩ := c.def_ (d := dd_law) 69 rfl
    have e := hmg.symm.trans (He.glo_ok KX G (c.fact 46 (f := .glo "law") rfl))
    cases e
    have b := FunD.bindsA (ps := ["script"]) F fun _ _ _ _ _ _ us hl => match us, hl with | [_], _ => rfl
    exact ⟨K, fd, _, KX, fun s v => b s [v] rfl, fun H a ns hl hO hS => ⟨a, ns, hl, rfl, hO, hS, fun _ => rfl⟩, fun base hI hN => law_any fun sa ns hl => ok_law ⟨_, w, K, mg, base, sa, ns, hI, hN, c⟩ F (hp ns hl)⟩
end Sky

end
section
namespace Sky
open PySem PySem.Spec PyProof.Rows L2
-- ### the evaluator's equations 
abbrev v3 (a b c : Int) : D := .tup [.int a, .int b, .int c]
theorem mul_ok {i j : Int} (h : mulOk i j = true) : D.mul (.int i) (.int j) = some (.int (i * j)) := if_pos h
theorem fdiv_ok {i j : Int} (h : divOk j = true) : D.fdiv (.int i) (.int j) = some (.int (i / j)) := if_pos h
@[simp] theorem eq_int {i j : Int} : cEqP (.int i) (.int j) = some (decide (i = j)) := by
  unfold cEqP
  simp [D.py, SeqAt.shaped, PyData.canLay0, PyData.depth, PyData.eqv]
  by_cases h : i = j <;> simp [h]
@[simp] theorem eq_non_int {j : Int} : cEqP .non (.int j) = some false := by
  unfold cEqP
  simp [D.py, SeqAt.shaped, PyData.canLay0, PyData.depth, PyData.eqv]
@[simp] theorem eq_int_non {j : Int} : cEqP (.int j) .non = some false := by
  unfold cEqP
  simp [D.py, SeqAt.shaped, PyData.canLay0, PyData.depth, PyData.eqv]
@[simp] theorem eq_v3 {a b c x y z : Int} : cEqP (v3 a b c) (v3 x y z) = some (decide (a = x ∧ b = y ∧ c = z)) := by
  unfold cEqP
  simp [v3, D.py, D.pys, SeqAt.shaped, PyData.canLay0, PyData.canLayAll0, PyData.depth, PyData.depthAll, PyData.eqv, PyData.eqvAll]
  rw [Bool.eq_iff_iff]; simp
@[simp] theorem is_integer_int {i : Int} {k : Nat} : F_is_integer [.int i] k = some (.bl true, k) := by
  simp [↓runB, ↓runI, ↓startE, ↓startI, ↓sSeq, ↓sRet, ↓sRetN, ↓sIf, ↓sAsg, ↓sDrop, ↓sFail, ↓sNext, ↓sPar2, ↓sPar3, ↓sFor, ↓forLoop, ↓sMe, ↓M.bind, ↓M.pure, ↓M.lift, ↓M.fail, ↓dBi, ↓dLc, ↓lcLoop, ↓dZip, ↓zipD, ↓pairD, ↓dEnumA, ↓enumD, ↓rangeD, ↓dRng, ↓dItems, ↓dCons, ↓dNil, ↓dBin, ↓dBinB, ↓dTup, ↓dLst, ↓dUn, ↓dIf, ↓dAndB, ↓dOrB, ↓dAndV, ↓dOrV, ↓dNotV, ↓D.tru, ↓dNotB, ↓dVal, ↓dIsi, ↓dIsiT, ↓dFld, ↓dCall, ↓dMake, ↓dEq, ↓dEqB, ↓dEqD, ↓dV, ↓dVR, ↓dC, ↓dTrue, ↓dTru, ↓tgTup, ↓tgsCons, ↓tgName, ↓tgsNil, ↓wipeE, ↓bSum, ↓bLen, ↓bAbs, ↓bTup, ↓bLst, ↓bAll, ↓bAny, ↓intsD, ↓boolsD, ↓D.add, ↓D.sub, ↓D.neg, ↓D.ix, ↓atI, ↓ixN, ↓D.mod, ↓D.kl, ↓Kl.sub, ↓Kl.subs, ↓Cn.fields, ↓cLt, ↓cLe, ↓cGe, ↓cGtA, ↓cIs, ↓cIsNot, ↓D.isNon, ↓D.items, ↓rng, ↓okR, ↓lim, ↓eq0, ↓dMeth, ↓dGet1, ↓keyD, ↓sFrz, ↓sOwn, ↓sApp, ↓dDrw0, ↓dDrw1, ↓sInc, ↓dLenS, ↓dIxS, ↓dNeS, ↓dPow, ↓bInt, ↓eqT, F_is_integer, S_is_integer, N_is_integer, dAndV, dNotV, D.tru]
@[simp] theorem is_row_lst {xs : List D} {k : Nat} : F_is_row [.lst xs] k = some (.bl true, k) := by
  simp [↓runB, ↓runI, ↓startE, ↓startI, ↓sSeq, ↓sRet, ↓sRetN, ↓sIf, ↓sAsg, ↓sDrop, ↓sFail, ↓sNext, ↓sPar2, ↓sPar3, ↓sFor, ↓forLoop, ↓sMe, ↓M.bind, ↓M.pure, ↓M.lift, ↓M.fail, ↓dBi, ↓dLc, ↓lcLoop, ↓dZip, ↓zipD, ↓pairD, ↓dEnumA, ↓enumD, ↓rangeD, ↓dRng, ↓dItems, ↓dCons, ↓dNil, ↓dBin, ↓dBinB, ↓dTup, ↓dLst, ↓dUn, ↓dIf, ↓dAndB, ↓dOrB, ↓dAndV, ↓dOrV, ↓dNotV, ↓D.tru, ↓dNotB, ↓dVal, ↓dIsi, ↓dIsiT, ↓dFld, ↓dCall, ↓dMake, ↓dEq, ↓dEqB, ↓dEqD, ↓dV, ↓dVR, ↓dC, ↓dTrue, ↓dTru, ↓tgTup, ↓tgsCons, ↓tgName, ↓tgsNil, ↓wipeE, ↓bSum, ↓bLen, ↓bAbs, ↓bTup, ↓bLst, ↓bAll, ↓bAny, ↓intsD, ↓boolsD, ↓D.add, ↓D.sub, ↓D.neg, ↓D.ix, ↓atI, ↓ixN, ↓D.mod, ↓D.kl, ↓Kl.sub, ↓Kl.subs, ↓Cn.fields, ↓cLt, ↓cLe, ↓cGe, ↓cGtA, ↓cIs, ↓cIsNot, ↓D.isNon, ↓D.items, ↓rng, ↓okR, ↓lim, ↓eq0, ↓dMeth, ↓dGet1, ↓keyD, ↓sFrz, ↓sOwn, ↓sApp, ↓dDrw0, ↓dDrw1, ↓sInc, ↓dLenS, ↓dIxS, ↓dNeS, ↓dPow, ↓bInt, ↓eqT, F_is_row, S_is_row]
@[simp] theorem is_row_tup {xs : List D} {k : Nat} : F_is_row [.tup xs] k = some (.bl true, k) := by
  simp [↓runB, ↓runI, ↓startE, ↓startI, ↓sSeq, ↓sRet, ↓sRetN, ↓sIf, ↓sAsg, ↓sDrop, ↓sFail, ↓sNext, ↓sPar2, ↓sPar3, ↓sFor, ↓forLoop, ↓sMe, ↓M.bind, ↓M.pure, ↓M.lift, ↓M.fail, ↓dBi, ↓dLc, ↓lcLoop, ↓dZip, ↓zipD, ↓pairD, ↓dEnumA, ↓enumD, ↓rangeD, ↓dRng, ↓dItems, ↓dCons, ↓dNil, ↓dBin, ↓dBinB, ↓dTup, ↓dLst, ↓dUn, ↓dIf, ↓dAndB, ↓dOrB, ↓dAndV, ↓dOrV, ↓dNotV, ↓D.tru, ↓dNotB, ↓dVal, ↓dIsi, ↓dIsiT, ↓dFld, ↓dCall, ↓dMake, ↓dEq, ↓dEqB, ↓dEqD, ↓dV, ↓dVR, ↓dC, ↓dTrue, ↓dTru, ↓tgTup, ↓tgsCons, ↓tgName, ↓tgsNil, ↓wipeE, ↓bSum, ↓bLen, ↓bAbs, ↓bTup, ↓bLst, ↓bAll, ↓bAny, ↓intsD, ↓boolsD, ↓D.add, ↓D.sub, ↓D.neg, ↓D.ix, ↓atI, ↓ixN, ↓D.mod, ↓D.kl, ↓Kl.sub, ↓Kl.subs, ↓Cn.fields, ↓cLt, ↓cLe, ↓cGe, ↓cGtA, ↓cIs, ↓cIsNot, ↓D.isNon, ↓D.items, ↓rng, ↓okR, ↓lim, ↓eq0, ↓dMeth, ↓dGet1, ↓keyD, ↓sFrz, ↓sOwn, ↓sApp, ↓dDrw0, ↓dDrw1, ↓sInc, ↓dLenS, ↓dIxS, ↓dNeS, ↓dPow, ↓bInt, ↓eqT, F_is_row, S_is_row]
theorem dot_spec {a b c x y z : Int} {k : Nat} (h1 : mulOk a x = true) (h2 : mulOk b y = true) (h3 : mulOk c z = true) : F_dot [v3 a b c, v3 x y z] k = some (.int (a * x + b * y + c * z), k) := by
  simp [↓runB, ↓runI, ↓startE, ↓startI, ↓sSeq, ↓sRet, ↓sRetN, ↓sIf, ↓sAsg, ↓sDrop, ↓sFail, ↓sNext, ↓sPar2, ↓sPar3, ↓sFor, ↓forLoop, ↓sMe, ↓M.bind, ↓M.pure, ↓M.lift, ↓M.fail, ↓dBi, ↓dLc, ↓lcLoop, ↓dZip, ↓zipD, ↓pairD, ↓dEnumA, ↓enumD, ↓rangeD, ↓dRng, ↓dItems, ↓dCons, ↓dNil, ↓dBin, ↓dBinB, ↓dTup, ↓dLst, ↓dUn, ↓dIf, ↓dAndB, ↓dOrB, ↓dAndV, ↓dOrV, ↓dNotV, ↓D.tru, ↓dNotB, ↓dVal, ↓dIsi, ↓dIsiT, ↓dFld, ↓dCall, ↓dMake, ↓dEq, ↓dEqB, ↓dEqD, ↓dV, ↓dVR, ↓dC, ↓dTrue, ↓dTru, ↓tgTup, ↓tgsCons, ↓tgName, ↓tgsNil, ↓wipeE, ↓bSum, ↓bLen, ↓bAbs, ↓bTup, ↓bLst, ↓bAll, ↓bAny, ↓intsD, ↓boolsD, ↓D.add, ↓D.sub, ↓D.neg, ↓D.ix, ↓atI, ↓ixN, ↓D.mod, ↓D.kl, ↓Kl.sub, ↓Kl.subs, ↓Cn.fields, ↓cLt, ↓cLe, ↓cGe, ↓cGtA, ↓cIs, ↓cIsNot, ↓D.isNon, ↓D.items, ↓rng, ↓okR, ↓lim, ↓eq0, ↓dMeth, ↓dGet1, ↓keyD, ↓sFrz, ↓sOwn, ↓sApp, ↓dDrw0, ↓dDrw1, ↓sInc, ↓dLenS, ↓dIxS, ↓dNeS, ↓dPow, ↓bInt, ↓eqT, F_dot, S_dot, mul_ok h1, mul_ok h2, mul_ok h3, Int.add_assoc]
theorem common_wh {k : Nat} : ∀ (n a b : Nat), b < n → whLoop (dBinB cGtA (dV 1) (dC (.int 0))) (sSeq (sPar2 0 1 (dV 1) (dBin D.mod (dV 0) (dV 1))) sNext) n [.val (.int a), .val (.int b)] k = some (.nx [.val (.int (Nat.gcd a b : Nat)), .val (.int 0)], k) := by
  intro n
  induction n with
  | zero => intro a b h; omega
  | succ n ih =>
    intro a b h
    unfold whLoop
    by_cases hb : b = 0
    · subst hb; simp [↓runB, ↓runI, ↓startE, ↓startI, ↓sSeq, ↓sRet, ↓sRetN, ↓sIf, ↓sAsg, ↓sDrop, ↓sFail, ↓sNext, ↓sPar2, ↓sPar3, ↓sFor, ↓forLoop, ↓sMe, ↓M.bind, ↓M.pure, ↓M.lift, ↓M.fail, ↓dBi, ↓dLc, ↓lcLoop, ↓dZip, ↓zipD, ↓pairD, ↓dEnumA, ↓enumD, ↓rangeD, ↓dRng, ↓dItems, ↓dCons, ↓dNil, ↓dBin, ↓dBinB, ↓dTup, ↓dLst, ↓dUn, ↓dIf, ↓dAndB, ↓dOrB, ↓dAndV, ↓dOrV, ↓dNotV, ↓D.tru, ↓dNotB, ↓dVal, ↓dIsi, ↓dIsiT, ↓dFld, ↓dCall, ↓dMake, ↓dEq, ↓dEqB, ↓dEqD, ↓dV, ↓dVR, ↓dC, ↓dTrue, ↓dTru, ↓tgTup, ↓tgsCons, ↓tgName, ↓tgsNil, ↓wipeE, ↓bSum, ↓bLen, ↓bAbs, ↓bTup, ↓bLst, ↓bAll, ↓bAny, ↓intsD, ↓boolsD, ↓D.add, ↓D.sub, ↓D.neg, ↓D.ix, ↓atI, ↓ixN, ↓D.mod, ↓D.kl, ↓Kl.sub, ↓Kl.subs, ↓Cn.fields, ↓cLt, ↓cLe, ↓cGe, ↓cGtA, ↓cIs, ↓cIsNot, ↓D.isNon, ↓D.items, ↓rng, ↓okR, ↓lim, ↓eq0, ↓dMeth, ↓dGet1, ↓keyD, ↓sFrz, ↓sOwn, ↓sApp, ↓dDrw0, ↓dDrw1, ↓sInc, ↓dLenS, ↓dIxS, ↓dNeS, ↓dPow, ↓bInt, ↓eqT]
    · have hp : 0 < b := Nat.pos_of_ne_zero hb
      have := ih b (a % b) (by have := Nat.mod_lt a (Nat.pos_of_ne_zero hb); omega)
      have ht : dBinB cGtA (dV 1) (dC (.int 0)) [.val (.int a), .val (.int b)] k = some (true, k) := by simp [↓runB, ↓runI, ↓startE, ↓startI, ↓sSeq, ↓sRet, ↓sRetN, ↓sIf, ↓sAsg, ↓sDrop, ↓sFail, ↓sNext, ↓sPar2, ↓sPar3, ↓sFor, ↓forLoop, ↓sMe, ↓M.bind, ↓M.pure, ↓M.lift, ↓M.fail, ↓dBi, ↓dLc, ↓lcLoop, ↓dZip, ↓zipD, ↓pairD, ↓dEnumA, ↓enumD, ↓rangeD, ↓dRng, ↓dItems, ↓dCons, ↓dNil, ↓dBin, ↓dBinB, ↓dTup, ↓dLst, ↓dUn, ↓dIf, ↓dAndB, ↓dOrB, ↓dAndV, ↓dOrV, ↓dNotV, ↓D.tru, ↓dNotB, ↓dVal, ↓dIsi, ↓dIsiT, ↓dFld, ↓dCall, ↓dMake, ↓dEq, ↓dEqB, ↓dEqD, ↓dV, ↓dVR, ↓dC, ↓dTrue, ↓dTru, ↓tgTup, ↓tgsCons, ↓tgName, ↓tgsNil, ↓wipeE, ↓bSum, ↓bLen, ↓bAbs, ↓bTup, ↓bLst, ↓bAll, ↓bAny, ↓intsD, ↓boolsD, ↓D.add, ↓D.sub, ↓D.neg, ↓D.ix, ↓atI, ↓ixN, ↓D.mod, ↓D.kl, ↓Kl.sub, ↓Kl.subs, ↓Cn.fields, ↓cLt, ↓cLe, ↓cGe, ↓cGtA, ↓cIs, ↓cIsNot, ↓D.isNon, ↓D.items, ↓rng, ↓okR, ↓lim, ↓eq0, ↓dMeth, ↓dGet1, ↓keyD, ↓sFrz, ↓sOwn, ↓sApp, ↓dDrw0, ↓dDrw1, ↓sInc, ↓dLenS, ↓dIxS, ↓dNeS, ↓dPow, ↓bInt, ↓eqT, hp]
      have step : (sSeq (sPar2 0 1 (dV 1) (dBin D.mod (dV 0) (dV 1))) sNext) [.val (.int a), .val (.int b)] k = some (.nx [.val (.int b), .val (.int ((a % b : Nat) : Int))], k) := by simp [↓runB, ↓runI, ↓startE, ↓startI, ↓sSeq, ↓sRet, ↓sRetN, ↓sIf, ↓sAsg, ↓sDrop, ↓sFail, ↓sNext, ↓sPar2, ↓sPar3, ↓sFor, ↓forLoop, ↓sMe, ↓M.bind, ↓M.pure, ↓M.lift, ↓M.fail, ↓dBi, ↓dLc, ↓lcLoop, ↓dZip, ↓zipD, ↓pairD, ↓dEnumA, ↓enumD, ↓rangeD, ↓dRng, ↓dItems, ↓dCons, ↓dNil, ↓dBin, ↓dBinB, ↓dTup, ↓dLst, ↓dUn, ↓dIf, ↓dAndB, ↓dOrB, ↓dAndV, ↓dOrV, ↓dNotV, ↓D.tru, ↓dNotB, ↓dVal, ↓dIsi, ↓dIsiT, ↓dFld, ↓dCall, ↓dMake, ↓dEq, ↓dEqB, ↓dEqD, ↓dV, ↓dVR, ↓dC, ↓dTrue, ↓dTru, ↓tgTup, ↓tgsCons, ↓tgName, ↓tgsNil, ↓wipeE, ↓bSum, ↓bLen, ↓bAbs, ↓bTup, ↓bLst, ↓bAll, ↓bAny, ↓intsD, ↓boolsD, ↓D.add, ↓D.sub, ↓D.neg, ↓D.ix, ↓atI, ↓ixN, ↓D.mod, ↓D.kl, ↓Kl.sub, ↓Kl.subs, ↓Cn.fields, ↓cLt, ↓cLe, ↓cGe, ↓cGtA, ↓cIs, ↓cIsNot, ↓D.isNon, ↓D.items, ↓rng, ↓okR, ↓lim, ↓eq0, ↓dMeth, ↓dGet1, ↓keyD, ↓sFrz, ↓sOwn, ↓sApp, ↓dDrw0, ↓dDrw1, ↓sInc, ↓dLenS, ↓dIxS, ↓dNeS, ↓dPow, ↓bInt, ↓eqT, hp]
      simp only [M.bind, ht, step, this]
      rw [Nat.gcd_comm b, ← Nat.gcd_rec, Nat.gcd_comm]
theorem common_spec {x y : Int} {k : Nat} : F_common [.int x, .int y] k = some (.int (Int.gcd x y), k) := by
  have ab : ∀ i : Int, (if i < 0 then -i else i) = ((i.natAbs : Nat) : Int) := fun i => by split <;> omega
  have := common_wh (k := k) (y.natAbs + 2) x.natAbs y.natAbs (by omega)
  simp [↓runB, ↓runI, ↓startE, ↓startI, ↓sSeq, ↓sRet, ↓sRetN, ↓sIf, ↓sAsg, ↓sDrop, ↓sFail, ↓sNext, ↓sPar2, ↓sPar3, ↓sFor, ↓forLoop, ↓sMe, ↓M.bind, ↓M.pure, ↓M.lift, ↓M.fail, ↓dBi, ↓dLc, ↓lcLoop, ↓dZip, ↓zipD, ↓pairD, ↓dEnumA, ↓enumD, ↓rangeD, ↓dRng, ↓dItems, ↓dCons, ↓dNil, ↓dBin, ↓dBinB, ↓dTup, ↓dLst, ↓dUn, ↓dIf, ↓dAndB, ↓dOrB, ↓dAndV, ↓dOrV, ↓dNotV, ↓D.tru, ↓dNotB, ↓dVal, ↓dIsi, ↓dIsiT, ↓dFld, ↓dCall, ↓dMake, ↓dEq, ↓dEqB, ↓dEqD, ↓dV, ↓dVR, ↓dC, ↓dTrue, ↓dTru, ↓tgTup, ↓tgsCons, ↓tgName, ↓tgsNil, ↓wipeE, ↓bSum, ↓bLen, ↓bAbs, ↓bTup, ↓bLst, ↓bAll, ↓bAny, ↓intsD, ↓boolsD, ↓D.add, ↓D.sub, ↓D.neg, ↓D.ix, ↓atI, ↓ixN, ↓D.mod, ↓D.kl, ↓Kl.sub, ↓Kl.subs, ↓Cn.fields, ↓cLt, ↓cLe, ↓cGe, ↓cGtA, ↓cIs, ↓cIsNot, ↓D.isNon, ↓D.items, ↓rng, ↓okR, ↓lim, ↓eq0, ↓dMeth, ↓dGet1, ↓keyD, ↓sFrz, ↓sOwn, ↓sApp, ↓dDrw0, ↓dDrw1, ↓sInc, ↓dLenS, ↓dIxS, ↓dNeS, ↓dPow, ↓bInt, ↓eqT, F_common, S_common, sWh, fuelI, ab, this, Int.gcd]
end Sky

end
section
namespace Sky
open PySem PySem.Spec PyProof.Rows L2
theorem mulOk_of {i j : Int} (h : i.natAbs < 18446744073709551616) : mulOk i j = true := by
  unfold mulOk
  rw [Bool.or_eq_true_iff]
  exact .inl (Nat.ble_eq_true_of_le h)
theorem divOk_of {j : Int} (h : 0 < j) (hb : j.natAbs < 2 ^ 64) : divOk j = true := by
  unfold divOk
  rw [Bool.and_eq_true_iff]
  refine ⟨decide_eq_true h, Nat.ble_eq_true_of_le ?_⟩
  have := (Nat.log2_lt (by omega)).2 hb
  omega
theorem is_triple_spec {a b c : Int} {k : Nat} : F_is_triple [v3 a b c] k = some (.bl (!decide (a = 0 ∧ b = 0 ∧ c = 0)), k) := by
  simp [↓runB, ↓runI, ↓startE, ↓startI, ↓sSeq, ↓sRet, ↓sRetN, ↓sIf, ↓sAsg, ↓sDrop, ↓sFail, ↓sNext, ↓sPar2, ↓sPar3, ↓sFor, ↓forLoop, ↓sMe, ↓M.bind, ↓M.pure, ↓M.lift, ↓M.fail, ↓dBi, ↓dLc, ↓lcLoop, ↓dZip, ↓zipD, ↓pairD, ↓dEnumA, ↓enumD, ↓rangeD, ↓dRng, ↓dItems, ↓dCons, ↓dNil, ↓dBin, ↓dBinB, ↓dTup, ↓dLst, ↓dUn, ↓dIf, ↓dAndB, ↓dOrB, ↓dAndV, ↓dOrV, ↓dNotV, ↓D.tru, ↓dNotB, ↓dVal, ↓dIsi, ↓dIsiT, ↓dFld, ↓dCall, ↓dMake, ↓dEq, ↓dEqB, ↓dEqD, ↓dV, ↓dVR, ↓dC, ↓dTrue, ↓dTru, ↓tgTup, ↓tgsCons, ↓tgName, ↓tgsNil, ↓wipeE, ↓bSum, ↓bLen, ↓bAbs, ↓bTup, ↓bLst, ↓bAll, ↓bAny, ↓intsD, ↓boolsD, ↓D.add, ↓D.sub, ↓D.neg, ↓D.ix, ↓atI, ↓ixN, ↓D.mod, ↓D.kl, ↓Kl.sub, ↓Kl.subs, ↓Cn.fields, ↓cLt, ↓cLe, ↓cGe, ↓cGtA, ↓cIs, ↓cIsNot, ↓D.isNon, ↓D.items, ↓rng, ↓okR, ↓lim, ↓eq0, ↓dMeth, ↓dGet1, ↓keyD, ↓sFrz, ↓sOwn, ↓sApp, ↓dDrw0, ↓dDrw1, ↓sInc, ↓dLenS, ↓dIxS, ↓dNeS, ↓dPow, ↓bInt, ↓eqT, F_is_triple, S_is_triple]
theorem check_triple_spec {p : D} {a b c : Int} {k : Nat} (h : ¬ (a = 0 ∧ b = 0 ∧ c = 0)) : F_check_triple [p, v3 a b c] k = some (.non, k) := by
  simp [↓runB, ↓runI, ↓startE, ↓startI, ↓sSeq, ↓sRet, ↓sRetN, ↓sIf, ↓sAsg, ↓sDrop, ↓sFail, ↓sNext, ↓sPar2, ↓sPar3, ↓sFor, ↓forLoop, ↓sMe, ↓M.bind, ↓M.pure, ↓M.lift, ↓M.fail, ↓dBi, ↓dLc, ↓lcLoop, ↓dZip, ↓zipD, ↓pairD, ↓dEnumA, ↓enumD, ↓rangeD, ↓dRng, ↓dItems, ↓dCons, ↓dNil, ↓dBin, ↓dBinB, ↓dTup, ↓dLst, ↓dUn, ↓dIf, ↓dAndB, ↓dOrB, ↓dAndV, ↓dOrV, ↓dNotV, ↓D.tru, ↓dNotB, ↓dVal, ↓dIsi, ↓dIsiT, ↓dFld, ↓dCall, ↓dMake, ↓dEq, ↓dEqB, ↓dEqD, ↓dV, ↓dVR, ↓dC, ↓dTrue, ↓dTru, ↓tgTup, ↓tgsCons, ↓tgName, ↓tgsNil, ↓wipeE, ↓bSum, ↓bLen, ↓bAbs, ↓bTup, ↓bLst, ↓bAll, ↓bAny, ↓intsD, ↓boolsD, ↓D.add, ↓D.sub, ↓D.neg, ↓D.ix, ↓atI, ↓ixN, ↓D.mod, ↓D.kl, ↓Kl.sub, ↓Kl.subs, ↓Cn.fields, ↓cLt, ↓cLe, ↓cGe, ↓cGtA, ↓cIs, ↓cIsNot, ↓D.isNon, ↓D.items, ↓rng, ↓okR, ↓lim, ↓eq0, ↓dMeth, ↓dGet1, ↓keyD, ↓sFrz, ↓sOwn, ↓sApp, ↓dDrw0, ↓dDrw1, ↓sInc, ↓dLenS, ↓dIxS, ↓dNeS, ↓dPow, ↓bInt, ↓eqT, F_check_triple, S_check_triple, is_triple_spec, h]
abbrev g3 (a b c : Int) : Int := ((Int.gcd (Int.gcd a b) c : Nat) : Int)
theorem least_spec {a b c : Int} {k : Nat} (h : ¬ (a = 0 ∧ b = 0 ∧ c = 0)) (hd : divOk (g3 a b c) = true) : F_least [v3 a b c] k = some (v3 (a / g3 a b c) (b / g3 a b c) (c / g3 a b c), k) := by
  simp [↓runB, ↓runI, ↓startE, ↓startI, ↓sSeq, ↓sRet, ↓sRetN, ↓sIf, ↓sAsg, ↓sDrop, ↓sFail, ↓sNext, ↓sPar2, ↓sPar3, ↓sFor, ↓forLoop, ↓sMe, ↓M.bind, ↓M.pure, ↓M.lift, ↓M.fail, ↓dBi, ↓dLc, ↓lcLoop, ↓dZip, ↓zipD, ↓pairD, ↓dEnumA, ↓enumD, ↓rangeD, ↓dRng, ↓dItems, ↓dCons, ↓dNil, ↓dBin, ↓dBinB, ↓dTup, ↓dLst, ↓dUn, ↓dIf, ↓dAndB, ↓dOrB, ↓dAndV, ↓dOrV, ↓dNotV, ↓D.tru, ↓dNotB, ↓dVal, ↓dIsi, ↓dIsiT, ↓dFld, ↓dCall, ↓dMake, ↓dEq, ↓dEqB, ↓dEqD, ↓dV, ↓dVR, ↓dC, ↓dTrue, ↓dTru, ↓tgTup, ↓tgsCons, ↓tgName, ↓tgsNil, ↓wipeE, ↓bSum, ↓bLen, ↓bAbs, ↓bTup, ↓bLst, ↓bAll, ↓bAny, ↓intsD, ↓boolsD, ↓D.add, ↓D.sub, ↓D.neg, ↓D.ix, ↓atI, ↓ixN, ↓D.mod, ↓D.kl, ↓Kl.sub, ↓Kl.subs, ↓Cn.fields, ↓cLt, ↓cLe, ↓cGe, ↓cGtA, ↓cIs, ↓cIsNot, ↓D.isNon, ↓D.items, ↓rng, ↓okR, ↓lim, ↓eq0, ↓dMeth, ↓dGet1, ↓keyD, ↓sFrz, ↓sOwn, ↓sApp, ↓dDrw0, ↓dDrw1, ↓sInc, ↓dLenS, ↓dIxS, ↓dNeS, ↓dPow, ↓bInt, ↓eqT, F_least, S_least, check_triple_spec h, common_spec, fdiv_ok hd]
theorem cross_spec {a b c x y z : Int} {k : Nat} (h1 : mulOk b z = true) (h2 : mulOk c y = true) (h3 : mulOk c x = true) (h4 : mulOk a z = true) (h5 : mulOk a y = true) (h6 : mulOk b x = true) :
    F_cross [v3 a b c, v3 x y z] k = some (v3 (b * z - c * y) (c * x - a * z) (a * y - b * x), k) := by
  simp [↓runB, ↓runI, ↓startE, ↓startI, ↓sSeq, ↓sRet, ↓sRetN, ↓sIf, ↓sAsg, ↓sDrop, ↓sFail, ↓sNext, ↓sPar2, ↓sPar3, ↓sFor, ↓forLoop, ↓sMe, ↓M.bind, ↓M.pure, ↓M.lift, ↓M.fail, ↓dBi, ↓dLc, ↓lcLoop, ↓dZip, ↓zipD, ↓pairD, ↓dEnumA, ↓enumD, ↓rangeD, ↓dRng, ↓dItems, ↓dCons, ↓dNil, ↓dBin, ↓dBinB, ↓dTup, ↓dLst, ↓dUn, ↓dIf, ↓dAndB, ↓dOrB, ↓dAndV, ↓dOrV, ↓dNotV, ↓D.tru, ↓dNotB, ↓dVal, ↓dIsi, ↓dIsiT, ↓dFld, ↓dCall, ↓dMake, ↓dEq, ↓dEqB, ↓dEqD, ↓dV, ↓dVR, ↓dC, ↓dTrue, ↓dTru, ↓tgTup, ↓tgsCons, ↓tgName, ↓tgsNil, ↓wipeE, ↓bSum, ↓bLen, ↓bAbs, ↓bTup, ↓bLst, ↓bAll, ↓bAny, ↓intsD, ↓boolsD, ↓D.add, ↓D.sub, ↓D.neg, ↓D.ix, ↓atI, ↓ixN, ↓D.mod, ↓D.kl, ↓Kl.sub, ↓Kl.subs, ↓Cn.fields, ↓cLt, ↓cLe, ↓cGe, ↓cGtA, ↓cIs, ↓cIsNot, ↓D.isNon, ↓D.items, ↓rng, ↓okR, ↓lim, ↓eq0, ↓dMeth, ↓dGet1, ↓keyD, ↓sFrz, ↓sOwn, ↓sApp, ↓dDrw0, ↓dDrw1, ↓sInc, ↓dLenS, ↓dIxS, ↓dNeS, ↓dPow, ↓bInt, ↓eqT, F_cross, S_cross, mul_ok h1, mul_ok h2, mul_ok h3, mul_ok h4, mul_ok h5, mul_ok h6]
theorem sq_nn (a : Int) : 0 ≤ a * a := by
  rcases Int.le_total 0 a with h | h
  · exact Int.mul_nonneg h h
  · exact Int.mul_nonneg_of_nonpos_of_nonpos h h
theorem mulOk_of2 {i j : Int} (h : j.natAbs < 18446744073709551616) : mulOk i j = true := by
  unfold mulOk
  rw [Bool.or_eq_true_iff, Bool.or_eq_true_iff]
  exact .inr (.inl (Nat.ble_eq_true_of_le h))
theorem mul_sm {i j : Int} (h : i.natAbs < 18446744073709551616) : D.mul (.int i) (.int j) = some (.int (i * j)) := mul_ok (mulOk_of h)
theorem on_line_spec {a b c x y z : Int} {k : Nat} (h1 : mulOk b z = true) (h2 : mulOk c y = true) (h3 : mulOk c x = true) (h4 : mulOk a z = true) (h5 : mulOk a y = true) (h6 : mulOk b x = true) :
    F_is_on_line [v3 a b c, v3 x y z] k = some (.bl (decide (b * z - c * y = 0 ∧ c * x - a * z = 0 ∧ a * y - b * x = 0)), k) := by
  have c := cross_spec (k := k) h1 h2 h3 h4 h5 h6
  simp [↓runB, ↓runI, ↓startE, ↓startI, ↓sSeq, ↓sRet, ↓sRetN, ↓sIf, ↓sAsg, ↓sDrop, ↓sFail, ↓sNext, ↓sPar2, ↓sPar3, ↓sFor, ↓forLoop, ↓sMe, ↓M.bind, ↓M.pure, ↓M.lift, ↓M.fail, ↓dBi, ↓dLc, ↓lcLoop, ↓dZip, ↓zipD, ↓pairD, ↓dEnumA, ↓enumD, ↓rangeD, ↓dRng, ↓dItems, ↓dCons, ↓dNil, ↓dBin, ↓dBinB, ↓dTup, ↓dLst, ↓dUn, ↓dIf, ↓dAndB, ↓dOrB, ↓dAndV, ↓dOrV, ↓dNotV, ↓D.tru, ↓dNotB, ↓dVal, ↓dIsi, ↓dIsiT, ↓dFld, ↓dCall, ↓dMake, ↓dEq, ↓dEqB, ↓dEqD, ↓dV, ↓dVR, ↓dC, ↓dTrue, ↓dTru, ↓tgTup, ↓tgsCons, ↓tgName, ↓tgsNil, ↓wipeE, ↓bSum, ↓bLen, ↓bAbs, ↓bTup, ↓bLst, ↓bAll, ↓bAny, ↓intsD, ↓boolsD, ↓D.add, ↓D.sub, ↓D.neg, ↓D.ix, ↓atI, ↓ixN, ↓D.mod, ↓D.kl, ↓Kl.sub, ↓Kl.subs, ↓Cn.fields, ↓cLt, ↓cLe, ↓cGe, ↓cGtA, ↓cIs, ↓cIsNot, ↓D.isNon, ↓D.items, ↓rng, ↓okR, ↓lim, ↓eq0, ↓dMeth, ↓dGet1, ↓keyD, ↓sFrz, ↓sOwn, ↓sApp, ↓dDrw0, ↓dDrw1, ↓sInc, ↓dLenS, ↓dIxS, ↓dNeS, ↓dPow, ↓bInt, ↓eqT, F_is_on_line, S_is_on_line, c]
theorem times_spec {a x y z : Int} {k : Nat} (ha : a.natAbs < 18446744073709551616) : F_times [.int a, v3 x y z] k = some (v3 (a * x) (a * y) (a * z), k) := by
  simp [↓runB, ↓runI, ↓startE, ↓startI, ↓sSeq, ↓sRet, ↓sRetN, ↓sIf, ↓sAsg, ↓sDrop, ↓sFail, ↓sNext, ↓sPar2, ↓sPar3, ↓sFor, ↓forLoop, ↓sMe, ↓M.bind, ↓M.pure, ↓M.lift, ↓M.fail, ↓dBi, ↓dLc, ↓lcLoop, ↓dZip, ↓zipD, ↓pairD, ↓dEnumA, ↓enumD, ↓rangeD, ↓dRng, ↓dItems, ↓dCons, ↓dNil, ↓dBin, ↓dBinB, ↓dTup, ↓dLst, ↓dUn, ↓dIf, ↓dAndB, ↓dOrB, ↓dAndV, ↓dOrV, ↓dNotV, ↓D.tru, ↓dNotB, ↓dVal, ↓dIsi, ↓dIsiT, ↓dFld, ↓dCall, ↓dMake, ↓dEq, ↓dEqB, ↓dEqD, ↓dV, ↓dVR, ↓dC, ↓dTrue, ↓dTru, ↓tgTup, ↓tgsCons, ↓tgName, ↓tgsNil, ↓wipeE, ↓bSum, ↓bLen, ↓bAbs, ↓bTup, ↓bLst, ↓bAll, ↓bAny, ↓intsD, ↓boolsD, ↓D.add, ↓D.sub, ↓D.neg, ↓D.ix, ↓atI, ↓ixN, ↓D.mod, ↓D.kl, ↓Kl.sub, ↓Kl.subs, ↓Cn.fields, ↓cLt, ↓cLe, ↓cGe, ↓cGtA, ↓cIs, ↓cIsNot, ↓D.isNon, ↓D.items, ↓rng, ↓okR, ↓lim, ↓eq0, ↓dMeth, ↓dGet1, ↓keyD, ↓sFrz, ↓sOwn, ↓sApp, ↓dDrw0, ↓dDrw1, ↓sInc, ↓dLenS, ↓dIxS, ↓dNeS, ↓dPow, ↓bInt, ↓eqT, F_times, S_times, mul_sm ha]
theorem g3_pos {a b c : Int} (h : ¬ (a = 0 ∧ b = 0 ∧ c = 0)) : 0 < g3 a b c := by
  have h1 : 0 < Int.gcd (Int.gcd a b) c := by
    rcases Nat.eq_zero_or_pos (Int.gcd (Int.gcd a b) c) with z | z
    · have h2 := Int.gcd_eq_zero_iff.mp z
      have h3 := Int.gcd_eq_zero_iff.mp (show Int.gcd a b = 0 by omega)
      exact absurd ⟨h3.1, h3.2, h2.2⟩ h
    · exact z
  show (0 : Int) < ((Int.gcd (Int.gcd a b) c : Nat) : Int)
  omega
theorem g3_dvd (a b c : Int) : g3 a b c ∣ a ∧ g3 a b c ∣ b ∧ g3 a b c ∣ c := by
  have h1 : ((Int.gcd (Int.gcd a b) c : Nat) : Int) ∣ ((Int.gcd a b : Nat) : Int) := Int.gcd_dvd_left ..
  exact ⟨Int.dvd_trans h1 (Int.gcd_dvd_left ..), Int.dvd_trans h1 (Int.gcd_dvd_right ..), Int.gcd_dvd_right ..⟩
theorem g3_ok {a b c : Int} (h : ¬ (a = 0 ∧ b = 0 ∧ c = 0)) (ha : a.natAbs < 2 ^ 64) (hb : b.natAbs < 2 ^ 64) (hc : c.natAbs < 2 ^ 64) : divOk (g3 a b c) = true := by
  have hp := g3_pos h
  obtain ⟨d1, d2, d3⟩ := g3_dvd a b c
  refine divOk_of hp ?_
  have le : ∀ x : Int, g3 a b c ∣ x → x ≠ 0 → (g3 a b c).natAbs ≤ x.natAbs := fun x hd hx => Nat.le_of_dvd (by omega) (Int.natAbs_dvd_natAbs.mpr hd)
  by_cases z : a = 0
  · by_cases z2 : b = 0
    · have := le c d3 (fun z3 => h ⟨z, z2, z3⟩); omega
    · have := le b d2 z2; omega
  · have := le a d1 z; omega
theorem g3_mul {a b c n : Int} (hn : 0 < n) : g3 (n * a) (n * b) (n * c) = n * g3 a b c := by
  have e : ((n.natAbs : Nat) : Int) = n := by omega
  show ((Int.gcd (Int.gcd (n * a) (n * b)) (n * c) : Nat) : Int) = _
  rw [Int.gcd_mul_left, Int.natCast_mul, e, Int.gcd_mul_left, Int.natCast_mul, e]
theorem g3_neg {a b c : Int} : g3 (-a) (-b) (-c) = g3 a b c := by
  simp [g3]
/-- in lowest terms -/
theorem g3_div {a b c : Int} (h : ¬ (a = 0 ∧ b = 0 ∧ c = 0)) : g3 (a / g3 a b c) (b / g3 a b c) (c / g3 a b c) = 1 := by
  have hp := g3_pos h
  obtain ⟨d1, d2, d3⟩ := g3_dvd a b c
  have := g3_mul (a := a / g3 a b c) (b := b / g3 a b c) (c := c / g3 a b c) hp
  rw [Int.mul_ediv_cancel' d1, Int.mul_ediv_cancel' d2, Int.mul_ediv_cancel' d3] at this
  have h' : g3 a b c * 1 = g3 a b c * g3 (a / g3 a b c) (b / g3 a b c) (c / g3 a b c) := by rw [Int.mul_one]; exact this
  exact (Int.eq_of_mul_eq_mul_left (by omega) h').symm
/-- below so many bits -/
def Bd (n : Nat) (x : Int) : Prop := x.natAbs < 2 ^ n
theorem Bd.mono {n m : Nat} {x : Int} (h : Bd n x) (hn : n ≤ m) : Bd m x := Nat.lt_of_lt_of_le h (Nat.pow_le_pow_right (by decide) hn)
theorem Bd.mul {n m : Nat} {x y : Int} (h : Bd n x) (h2 : Bd m y) : Bd (n + m) (x * y) := by
  unfold Bd at *
  rw [Int.natAbs_mul, Nat.pow_add]
  exact Nat.mul_lt_mul'' h h2
theorem Bd.add {n : Nat} {x y : Int} (h : Bd n x) (h2 : Bd n y) : Bd (n + 1) (x + y) := by
  unfold Bd at *
  rw [Nat.pow_succ]
  have := Int.natAbs_add_le x y
  omega
theorem Bd.neg {n : Nat} {x : Int} (h : Bd n x) : Bd n (-x) := by unfold Bd at *; rw [Int.natAbs_neg]; exact h
theorem Bd.sub {n : Nat} {x y : Int} (h : Bd n x) (h2 : Bd n y) : Bd (n + 1) (x - y) := by rw [Int.sub_eq_add_neg]; exact h.add h2.neg
theorem Bd.le {n : Nat} {x y : Int} (h : Bd n x) (h2 : y.natAbs ≤ x.natAbs) : Bd n y := Nat.lt_of_le_of_lt h2 h
theorem bd_of {n : Nat} {x : Int} (k : Nat) (h : x.natAbs ≤ k) (hk : k < 2 ^ n) : Bd n x := Nat.lt_of_le_of_lt h hk
theorem log_bd {n : Nat} {x : Int} (h : Bd n x) : x.natAbs.log2 ≤ n := by
  by_cases z : x.natAbs = 0
  · rw [z]; exact Nat.zero_le _
  · exact Nat.le_of_lt ((Nat.log2_lt z).2 h)
theorem mulOk_bd {n m : Nat} {x y : Int} (h : Bd n x) (h2 : Bd m y) (hn : n + m < 1000000) : mulOk x y = true := by
  unfold mulOk
  rw [Bool.or_eq_true_iff, Bool.or_eq_true_iff]
  have := log_bd h; have := log_bd h2
  exact .inr (.inr (Nat.ble_eq_true_of_le (by omega)))
theorem divOk_bd {n : Nat} {j : Int} (h : 0 < j) (h2 : Bd n j) (hn : n < 9000) : divOk j = true := by
  unfold divOk
  rw [Bool.and_eq_true_iff]
  have := log_bd h2
  exact ⟨decide_eq_true h, Nat.ble_eq_true_of_le (by omega)⟩
theorem mul_bd {n m : Nat} {x y : Int} (h : Bd n x) (h2 : Bd m y) (hn : n + m < 1000000) : D.mul (.int x) (.int y) = some (.int (x * y)) := mul_ok (mulOk_bd h h2 hn)
/-- three numbers -/
structure T3 (n : Nat) (a b c : Int) : Prop where
  a : Bd n a
  b : Bd n b
  c : Bd n c
theorem T3.mono {n m : Nat} {a b c : Int} (h : T3 n a b c) (hn : n ≤ m) : T3 m a b c := ⟨h.a.mono hn, h.b.mono hn, h.c.mono hn⟩
theorem T3.dot {n m : Nat} {a b c x y z : Int} (h : T3 n a b c) (g : T3 m x y z) : Bd (n + m + 2) (a * x + b * y + c * z) := ((h.a.mul g.a).add (h.b.mul g.b)).add ((h.c.mul g.c).mono (by omega))
theorem T3.cross {n m : Nat} {a b c x y z : Int} (h : T3 n a b c) (g : T3 m x y z) : T3 (n + m + 1) (b * z - c * y) (c * x - a * z) (a * y - b * x) := ⟨(h.b.mul g.c).sub (h.c.mul g.b), (h.c.mul g.a).sub (h.a.mul g.c), (h.a.mul g.b).sub (h.b.mul g.a)⟩
theorem T3.times {n m : Nat} {a b c t : Int} (h : T3 n a b c) (g : Bd m t) : T3 (m + n) (t * a) (t * b) (t * c) := ⟨g.mul h.a, g.mul h.b, g.mul h.c⟩
theorem dotB {n m : Nat} {a b c x y z : Int} {k : Nat} (h : T3 n a b c) (g : T3 m x y z) (hn : n + m < 1000000 := by decide) : F_dot [v3 a b c, v3 x y z] k = some (.int (a * x + b * y + c * z), k) :=
  dot_spec (mulOk_bd h.a g.a hn) (mulOk_bd h.b g.b hn) (mulOk_bd h.c g.c hn)
theorem crossB {n m : Nat} {a b c x y z : Int} {k : Nat} (h : T3 n a b c) (g : T3 m x y z) (hn : n + m < 1000000 := by decide) : F_cross [v3 a b c, v3 x y z] k = some (v3 (b * z - c * y) (c * x - a * z) (a * y - b * x), k) :=
  cross_spec (mulOk_bd h.b g.c hn) (mulOk_bd h.c g.b hn) (mulOk_bd h.c g.a hn) (mulOk_bd h.a g.c hn) (mulOk_bd h.a g.b hn) (mulOk_bd h.b g.a hn)
theorem lineB {n m : Nat} {a b c x y z : Int} {k : Nat} (h : T3 n a b c) (g : T3 m x y z) (hn : n + m < 1000000 := by decide) : F_is_on_line [v3 a b c, v3 x y z] k = some (.bl (decide (b * z - c * y = 0 ∧ c * x - a * z = 0 ∧ a * y - b * x = 0)), k) :=
  on_line_spec (mulOk_bd h.b g.c hn) (mulOk_bd h.c g.b hn) (mulOk_bd h.c g.a hn) (mulOk_bd h.a g.c hn) (mulOk_bd h.a g.b hn) (mulOk_bd h.b g.a hn)
theorem timesB {n m : Nat} {t x y z : Int} {k : Nat} (ht : Bd m t) (h : T3 n x y z) (hn : m + n < 1000000 := by decide) : F_times [.int t, v3 x y z] k = some (v3 (t * x) (t * y) (t * z), k) := by
  simp [↓runB, ↓runI, ↓startE, ↓startI, ↓sSeq, ↓sRet, ↓sRetN, ↓sIf, ↓sAsg, ↓sDrop, ↓sFail, ↓sNext, ↓sPar2, ↓sPar3, ↓sFor, ↓forLoop, ↓sMe, ↓M.bind, ↓M.pure, ↓M.lift, ↓M.fail, ↓dBi, ↓dLc, ↓lcLoop, ↓dZip, ↓zipD, ↓pairD, ↓dEnumA, ↓enumD, ↓rangeD, ↓dRng, ↓dItems, ↓dCons, ↓dNil, ↓dBin, ↓dBinB, ↓dTup, ↓dLst, ↓dUn, ↓dIf, ↓dAndB, ↓dOrB, ↓dAndV, ↓dOrV, ↓dNotV, ↓D.tru, ↓dNotB, ↓dVal, ↓dIsi, ↓dIsiT, ↓dFld, ↓dCall, ↓dMake, ↓dEq, ↓dEqB, ↓dEqD, ↓dV, ↓dVR, ↓dC, ↓dTrue, ↓dTru, ↓tgTup, ↓tgsCons, ↓tgName, ↓tgsNil, ↓wipeE, ↓bSum, ↓bLen, ↓bAbs, ↓bTup, ↓bLst, ↓bAll, ↓bAny, ↓intsD, ↓boolsD, ↓D.add, ↓D.sub, ↓D.neg, ↓D.ix, ↓atI, ↓ixN, ↓D.mod, ↓D.kl, ↓Kl.sub, ↓Kl.subs, ↓Cn.fields, ↓cLt, ↓cLe, ↓cGe, ↓cGtA, ↓cIs, ↓cIsNot, ↓D.isNon, ↓D.items, ↓rng, ↓okR, ↓lim, ↓eq0, ↓dMeth, ↓dGet1, ↓keyD, ↓sFrz, ↓sOwn, ↓sApp, ↓dDrw0, ↓dDrw1, ↓sInc, ↓dLenS, ↓dIxS, ↓dNeS, ↓dPow, ↓bInt, ↓eqT, F_times, S_times, mul_bd ht h.a hn, mul_bd ht h.b hn, mul_bd ht h.c hn]
theorem g3_le {a b c : Int} (h : ¬ (a = 0 ∧ b = 0 ∧ c = 0)) {n : Nat} (t : T3 n a b c) : Bd n (g3 a b c) := by
  obtain ⟨d1, d2, d3⟩ := g3_dvd a b c
  have le : ∀ x : Int, g3 a b c ∣ x → x ≠ 0 → (g3 a b c).natAbs ≤ x.natAbs := fun x hd hx => Nat.le_of_dvd (by omega) (Int.natAbs_dvd_natAbs.mpr hd)
  by_cases z : a = 0
  · by_cases z2 : b = 0
    · exact t.c.le (le c d3 (fun z3 => h ⟨z, z2, z3⟩))
    · exact t.b.le (le b d2 z2)
  · exact t.a.le (le a d1 z)
/-- the least triple -/
theorem leastB {n : Nat} {a b c : Int} {k : Nat} (h : ¬ (a = 0 ∧ b = 0 ∧ c = 0)) (t : T3 n a b c) (hn : n < 9000 := by decide) : F_least [v3 a b c] k = some (v3 (a / g3 a b c) (b / g3 a b c) (c / g3 a b c), k) :=
  least_spec h (divOk_bd (g3_pos h) (g3_le h t) hn)
/-- what least tells: p = g * a and the like -/
theorem g3_get {a b c : Int} (h : ¬ (a = 0 ∧ b = 0 ∧ c = 0)) : ∃ g x y z, 0 < g ∧ g = g3 a b c ∧ a = g * x ∧ b = g * y ∧ c = g * z ∧ a / g3 a b c = x ∧ b / g3 a b c = y ∧ c / g3 a b c = z ∧ g3 x y z = 1 := by
  obtain ⟨d1, d2, d3⟩ := g3_dvd a b c
  exact ⟨g3 a b c, _, _, _, g3_pos h, rfl, (Int.mul_ediv_cancel' d1).symm, (Int.mul_ediv_cancel' d2).symm, (Int.mul_ediv_cancel' d3).symm, rfl, rfl, rfl, g3_div h⟩
theorem T3.of_mul {n : Nat} {g x y z : Int} (hg : 0 < g) (t : T3 n (g * x) (g * y) (g * z)) : T3 n x y z := by
  have le : ∀ u : Int, u.natAbs ≤ (g * u).natAbs := fun u => by
    rw [Int.natAbs_mul]
    exact Nat.le_mul_of_pos_left _ (by omega)
  exact ⟨t.a.le (le x), t.b.le (le y), t.c.le (le z)⟩
structure Ve where
  x : Int
  y : Int
  z : Int
  deriving DecidableEq
abbrev Ve.D (p : Ve) : D := v3 p.x p.y p.z
def Ve.dot (p q : Ve) : Int := p.x * q.x + p.y * q.y + p.z * q.z
def Ve.cr (p q : Ve) : Ve := ⟨p.y * q.z - p.z * q.y, p.z * q.x - p.x * q.z, p.x * q.y - p.y * q.x⟩
def Ve.sm (t : Int) (p : Ve) : Ve := ⟨t * p.x, t * p.y, t * p.z⟩
abbrev Ve.nz (p : Ve) : Prop := ¬ (p.x = 0 ∧ p.y = 0 ∧ p.z = 0)
abbrev Ve.Bd (n : Nat) (p : Ve) : Prop := T3 n p.x p.y p.z
theorem Ve.dot_pos {p : Ve} (h : p.nz) : 0 < p.dot p := by
  have h1 := sq_nn p.x; have h2 := sq_nn p.y; have h3 := sq_nn p.z
  unfold Ve.dot
  rcases Int.lt_or_le 0 (p.x * p.x + p.y * p.y + p.z * p.z) with z | z
  · exact z
  · have key : ∀ x : Int, x * x = 0 → x = 0 := fun x e => by rcases Int.mul_eq_zero.mp e with e | e <;> exact e
    exact absurd ⟨key p.x (by omega), key p.y (by omega), key p.z (by omega)⟩ h
theorem ve_dot {p q : Ve} {n m : Nat} {k : Nat} (hp : p.Bd n) (hq : q.Bd m) (hn : n + m < 1000000) : F_dot [p.D, q.D] k = some (.int (p.dot q), k) := dotB hp hq hn
theorem dot_bd {p q : Ve} {n m : Nat} (hp : p.Bd n) (hq : q.Bd m) : Sky.Bd (n + m + 2) (p.dot q) := T3.dot hp hq
end Sky

end
section
namespace Sky
open PySem PySem.Spec PyProof.Rows L2
theorem seq_nx {f g : SemS} {ρ ρ' : Env} {k k' : Nat} (h : f ρ k = some (.nx ρ', k')) : sSeq f g ρ k = g ρ' k' := by simp only [sSeq, M.bind, h]
theorem put_name {i : Nat} {d : D} {ρ : Env} : (tgName i).put d ρ = some (ρ.set i (.val d)) := rfl
theorem seq_ret {f g : SemS} {ρ : Env} {k k' : Nat} {d : D} (h : f ρ k = some (.ret d, k')) : sSeq f g ρ k = some (.ret d, k') := by simp only [sSeq, M.bind, h, M.pure]
theorem drop_ok {f : Sem} {ρ : Env} {k k' : Nat} {d : D} (h : f ρ k = some (d, k')) : sDrop f ρ k = some (.nx ρ, k') := by simp only [sDrop, M.bind, h, M.pure]
theorem asg_ok {f : Sem} {ρ : Env} {i k k' : Nat} {d : D} (h : f ρ k = some (d, k')) : sAsg f (tgName i) ρ k = some (.nx (ρ.set i (.val d)), k') := by simp only [sAsg, M.bind, h, M.pure, put_name]
theorem for_ok {it : SemL} {t : Tg} {b : SemS} {ρ : Env} {k k' : Nat} {ds : List D} (h : it ρ k = some (ds, k')) : sFor it t b ρ k = forLoop t b ds ρ k' := by simp only [sFor, M.bind, h]
theorem ret_ok {f : Sem} {ρ : Env} {k k' : Nat} {d : D} (h : f ρ k = some (d, k')) : sRet f ρ k = some (.ret d, k') := by simp only [sRet, M.bind, h, M.pure]
theorem c1_ok {F : Fn} {f : Sem} {ρ : Env} {k k1 k2 : Nat} {d e : D} (h : f ρ k = some (d, k1)) (h2 : F [d] k1 = some (e, k2)) : dCall 1 F (dCons f dNil) ρ k = some (e, k2) := by simp only [dCall, dCons, dNil, M.bind, M.pure, h, h2, List.length_cons, List.length_nil, Nat.beq, Nat.zero_add]
theorem c2_ok {F : Fn} {f g : Sem} {ρ : Env} {k k1 k2 k3 : Nat} {d e r : D} (h : f ρ k = some (d, k1)) (h1 : g ρ k1 = some (e, k2)) (h2 : F [d, e] k2 = some (r, k3)) : dCall 2 F (dCons f (dCons g dNil)) ρ k = some (r, k3) := by
  simp only [dCall, dCons, dNil, M.bind, M.pure, h, h1, h2, List.length_cons, List.length_nil, Nat.beq, Nat.zero_add, Nat.reduceAdd]
theorem runB_ret {n : Nat} {B : SemS} {ds : List D} {k k' : Nat} {d : D} (h : B (startE n ds) k = some (.ret d, k')) : runB n B ds k = some (d, k') := by simp only [runB, h]
theorem check_num {x : Str} {j lo hi : Int} {k : Nat} (h1 : lo ≤ j) (h2 : j ≤ hi) : F_check_number [.str x, .int j, .int lo, .int hi] k = some (.non, k) := by
  simp [↓runB, ↓runI, ↓startE, ↓startI, ↓sSeq, ↓sRet, ↓sRetN, ↓sIf, ↓sAsg, ↓sDrop, ↓sFail, ↓sNext, ↓sPar2, ↓sPar3, ↓sFor, ↓forLoop, ↓sMe, ↓M.bind, ↓M.pure, ↓M.lift, ↓M.fail, ↓dBi, ↓dLc, ↓lcLoop, ↓dZip, ↓zipD, ↓pairD, ↓dEnumA, ↓enumD, ↓rangeD, ↓dRng, ↓dItems, ↓dCons, ↓dNil, ↓dBin, ↓dBinB, ↓dTup, ↓dLst, ↓dUn, ↓dIf, ↓dAndB, ↓dOrB, ↓dAndV, ↓dOrV, ↓dNotV, ↓D.tru, ↓dNotB, ↓dVal, ↓dIsi, ↓dIsiT, ↓dFld, ↓dCall, ↓dMake, ↓dEq, ↓dEqB, ↓dEqD, ↓dV, ↓dVR, ↓dC, ↓dTrue, ↓dTru, ↓tgTup, ↓tgsCons, ↓tgName, ↓tgsNil, ↓wipeE, ↓bSum, ↓bLen, ↓bAbs, ↓bTup, ↓bLst, ↓bAll, ↓bAny, ↓intsD, ↓boolsD, ↓D.add, ↓D.sub, ↓D.neg, ↓D.ix, ↓atI, ↓ixN, ↓D.mod, ↓D.kl, ↓Kl.sub, ↓Kl.subs, ↓Cn.fields, ↓cLt, ↓cLe, ↓cGe, ↓cGtA, ↓cIs, ↓cIsNot, ↓D.isNon, ↓D.items, ↓rng, ↓okR, ↓lim, ↓eq0, ↓dMeth, ↓dGet1, ↓keyD, ↓sFrz, ↓sOwn, ↓sApp, ↓dDrw0, ↓dDrw1, ↓sInc, ↓dLenS, ↓dIxS, ↓dNeS, ↓dPow, ↓bInt, ↓eqT, F_check_number, S_check_number, F_is_number, S_is_number, dChain, h1, h2]
theorem lift_ok {α : Type} {o : Option α} {a : α} {k : Nat} (h : o = some a) : M.lift o k = some (a, k) := by subst h; rfl
theorem dRng_ok {f : SemL} {ρ : Env} {k k' : Nat} {xs ds : List D} (h : f ρ k = some (xs, k')) (hr : rng xs = some ds) : dRng f ρ k = some (ds, k') := by
  unfold dRng M.bind
  rw [h]
  exact lift_ok hr
theorem cons2_ok {f g : Sem} {ρ : Env} {k k1 k2 : Nat} {d e : D} (h1 : f ρ k = some (d, k1)) (h2 : g ρ k1 = some (e, k2)) : dCons f (dCons g dNil) ρ k = some ([d, e], k2) := by
  simp only [dCons, dNil, M.bind, M.pure, h1, h2]
theorem dv {ρ : Env} {i : Nat} {d : D} (h : ρ[i]? = some (.val d)) (k : Nat) : dV i ρ k = some (d, k) := by simp only [dV, h]
theorem c0_ok {F : Fn} {ρ : Env} {k k' : Nat} {e : D} (h : F [] k = some (e, k')) : dCall 0 F dNil ρ k = some (e, k') := by simp only [dCall, dNil, M.bind, List.length_nil, Nat.beq, h]
theorem sif_f {c : SemB} {f g : SemS} {ρ : Env} {k k' : Nat} (h : c ρ k = some (false, k')) : sIf c f g ρ k = g ρ k' := by simp only [sIf, M.bind, h]
theorem sif_t {c : SemB} {f g : SemS} {ρ : Env} {k k' : Nat} (h : c ρ k = some (true, k')) : sIf c f g ρ k = f ρ k' := by simp only [sIf, M.bind, h]
theorem or_f {f g : SemB} {ρ : Env} {k k1 k2 : Nat} {b : Bool} (hf : f ρ k = some (false, k1)) (hg : g ρ k1 = some (b, k2)) : dOrB f g ρ k = some (b, k2) := by simp only [dOrB, M.bind, hf, hg]
theorem or_t {f g : SemB} {ρ : Env} {k k1 : Nat} (hf : f ρ k = some (true, k1)) : dOrB f g ρ k = some (true, k1) := by simp only [dOrB, M.bind, hf, M.pure]
theorem and_f {f g : SemB} {ρ : Env} {k k1 : Nat} (hf : f ρ k = some (false, k1)) : dAndB f g ρ k = some (false, k1) := by simp only [dAndB, M.bind, hf, M.pure]
theorem and_t {f g : SemB} {ρ : Env} {k k1 k2 : Nat} {b : Bool} (hf : f ρ k = some (true, k1)) (hg : g ρ k1 = some (b, k2)) : dAndB f g ρ k = some (b, k2) := by simp only [dAndB, M.bind, hf, hg]
theorem not_ok {f : SemB} {ρ : Env} {k k' : Nat} {b : Bool} (h : f ρ k = some (b, k')) : dNotB f ρ k = some (!b, k') := by simp only [dNotB, M.bind, h, M.pure]
theorem tru_ok {f : Sem} {ρ : Env} {k k' : Nat} {b : Bool} (h : f ρ k = some (.bl b, k')) : dTru f ρ k = some (b, k') := by simp only [dTru, M.bind, h, D.tru, M.lift]
theorem gs {ρ : Env} {i j : Nat} {s : Slot} (h : i ≠ j) : (ρ.set i s)[j]? = ρ[j]? := List.getElem?_set_ne h
/-- == and != of plain data, by what cEqP tells -/
theorem eqB_ok {f g : Sem} {neg : Bool} {ρ : Env} {k k1 k2 : Nat} {d e : D} {b : Bool} (hd : ∀ c fs, d ≠ .ins c fs) (h : f ρ k = some (d, k1)) (h1 : g ρ k1 = some (e, k2)) (c : cEqP d e = some b) : dEqB eqT neg f g ρ k = some (xor neg b, k2) := by
  have : dEqD eqT neg d e = M.lift (((cEqP d e).map (xor neg)).map D.bl) := by
    cases d <;> first | rfl | exact absurd rfl (hd _ _)
  simp only [dEqB, dEq, M.bind, h, h1, this, c, Option.map, M.lift, M.pure]
theorem ne_not {f g : Sem} {ρ : Env} {k k1 k2 : Nat} {d : D} (hd : ∀ c fs, d ≠ .ins c fs) (h : f ρ k = some (d, k1)) (h1 : g ρ k1 = some (d, k2)) (c : cEqP d d = some true) : dEqB eqT true f g ρ k = some (false, k2) := eqB_ok hd h h1 c
theorem eq_ve (p q : Ve) : cEqP p.D q.D = some (decide (p = q)) := by
  rw [eq_v3]; congr 1; cases p; cases q; simp
theorem eq_ve_self (p : Ve) : cEqP p.D p.D = some true := by rw [eq_ve]; simp
theorem ne_ve {f g : Sem} {ρ : Env} {k k1 k2 : Nat} {p : Ve} (h : f ρ k = some (p.D, k1)) (h1 : g ρ k1 = some (p.D, k2)) : dEqB eqT true f g ρ k = some (false, k2) := ne_not (fun _ _ z => by cases z) h h1 (eq_ve_self p)
theorem ne_bl {f g : Sem} {ρ : Env} {k k1 k2 : Nat} {b : Bool} (h : f ρ k = some (.bl b, k1)) (h1 : g ρ k1 = some (.bl b, k2)) : dEqB eqT true f g ρ k = some (false, k2) := ne_not (fun _ _ z => by cases z) h h1 (by cases b <;> decide +kernel)
theorem tup1_ok {f : Sem} {ρ : Env} {k k1 : Nat} {a : D} (h1 : f ρ k = some (a, k1)) : dTup (dCons f dNil) ρ k = some (.tup [a], k1) := by
  have t : lim 1 = true := rfl
  simp only [dTup, dCons, dNil, M.bind, M.pure, M.lift, h1, List.length_cons, List.length_nil, Nat.zero_add, Nat.reduceAdd, t, if_true]
theorem tup2_ok {f g : Sem} {ρ : Env} {k k1 k2 : Nat} {a b : D} (h1 : f ρ k = some (a, k1)) (h2 : g ρ k1 = some (b, k2)) : dTup (dCons f (dCons g dNil)) ρ k = some (.tup [a, b], k2) := by
  have t : lim 2 = true := rfl
  simp only [dTup, dCons, dNil, M.bind, M.pure, M.lift, h1, h2, List.length_cons, List.length_nil, Nat.zero_add, Nat.reduceAdd, t, if_true]
theorem tup3_ok {f g h : Sem} {ρ : Env} {k k1 k2 k3 : Nat} {a b c : D} (h1 : f ρ k = some (a, k1)) (h2 : g ρ k1 = some (b, k2)) (h3 : h ρ k2 = some (c, k3)) : dTup (dCons f (dCons g (dCons h dNil))) ρ k = some (.tup [a, b, c], k3) := by
  have t : lim 3 = true := rfl
  simp only [dTup, dCons, dNil, M.bind, M.pure, M.lift, h1, h2, h3, List.length_cons, List.length_nil, Nat.zero_add, Nat.reduceAdd, t, if_true]
theorem tup4_ok {f g h l : Sem} {ρ : Env} {k k1 k2 k3 k4 : Nat} {a b c d : D} (h1 : f ρ k = some (a, k1)) (h2 : g ρ k1 = some (b, k2)) (h3 : h ρ k2 = some (c, k3)) (h4 : l ρ k3 = some (d, k4)) : dTup (dCons f (dCons g (dCons h (dCons l dNil)))) ρ k = some (.tup [a, b, c, d], k4) := by
  have t : lim 4 = true := rfl
  simp only [dTup, dCons, dNil, M.bind, M.pure, M.lift, h1, h2, h3, h4, List.length_cons, List.length_nil, Nat.zero_add, Nat.reduceAdd, t, if_true]
theorem lst1_ok {f : Sem} {ρ : Env} {k k1 : Nat} {a : D} (h1 : f ρ k = some (a, k1)) : dLst (dCons f dNil) ρ k = some (.lst [a], k1) := by
  have t : lim 1 = true := rfl
  simp only [dLst, dCons, dNil, M.bind, M.pure, M.lift, h1, List.length_cons, List.length_nil, Nat.zero_add, Nat.reduceAdd, t, if_true]
theorem lst0_ok {ρ : Env} {k : Nat} : dLst dNil ρ k = some (.lst [], k) := rfl
theorem asgT2_ok {f : Sem} {ρ : Env} {i j k k' : Nat} {a b : D} (h : f ρ k = some (.tup [a, b], k')) : sAsg f (tgTup 2 (tgsCons (tgName i) (tgsCons (tgName j) (tgsNil)))) ρ k = some (.nx ((ρ.set i (.val a)).set j (.val b)), k') := by
  simp only [sAsg, M.bind, h, tgTup, tgsCons, tgsNil, put_name, List.length_cons, List.length_nil, Nat.zero_add, Nat.reduceAdd, Nat.beq, M.pure]
theorem asgL2_ok {f : Sem} {ρ : Env} {i j k k' : Nat} {a b : D} (h : f ρ k = some (.lst [a, b], k')) : sAsg f (tgLst 2 (tgsCons (tgName i) (tgsCons (tgName j) (tgsNil)))) ρ k = some (.nx ((ρ.set i (.val a)).set j (.val b)), k') := by
  simp only [sAsg, M.bind, h, tgLst, tgsCons, tgsNil, put_name, List.length_cons, List.length_nil, Nat.zero_add, Nat.reduceAdd, Nat.beq, M.pure]
theorem asgT3_ok {f : Sem} {ρ : Env} {i j l k k' : Nat} {a b c : D} (h : f ρ k = some (.tup [a, b, c], k')) : sAsg f (tgTup 3 (tgsCons (tgName i) (tgsCons (tgName j) (tgsCons (tgName l) (tgsNil))))) ρ k = some (.nx (((ρ.set i (.val a)).set j (.val b)).set l (.val c)), k') := by
  simp only [sAsg, M.bind, h, tgTup, tgsCons, tgsNil, put_name, List.length_cons, List.length_nil, Nat.zero_add, Nat.reduceAdd, Nat.beq, M.pure]
theorem asgT4_ok {f : Sem} {ρ : Env} {i j l m k k' : Nat} {a b c d : D} (h : f ρ k = some (.tup [a, b, c, d], k')) : sAsg f (tgTup 4 (tgsCons (tgName i) (tgsCons (tgName j) (tgsCons (tgName l) (tgsCons (tgName m) (tgsNil)))))) ρ k = some (.nx ((((ρ.set i (.val a)).set j (.val b)).set l (.val c)).set m (.val d)), k') := by
  simp only [sAsg, M.bind, h, tgTup, tgsCons, tgsNil, put_name, List.length_cons, List.length_nil, Nat.zero_add, Nat.reduceAdd, Nat.beq, M.pure]
theorem par2_ok {f g : Sem} {ρ : Env} {i j k k1 k2 : Nat} {a b : D} (h : f ρ k = some (a, k1)) (h1 : g ρ k1 = some (b, k2)) : sPar2 i j f g ρ k = some (.nx ((ρ.set i (.val a)).set j (.val b)), k2) := by
  simp only [sPar2, M.bind, h, h1, M.pure]
theorem is_ok {f g : Sem} {ρ : Env} {k k1 k2 : Nat} {d e : D} {b : Bool} (h : f ρ k = some (d, k1)) (h1 : g ρ k1 = some (e, k2)) (c : cIs d e = some b) : dBin (fun x y => (cIs x y).map D.bl) f g ρ k = some (.bl b, k2) := by
  simp only [dBin, M.bind, h, h1, c, Option.map, M.lift]
theorem binB_ok {c : D → D → Option Bool} {f g : Sem} {ρ : Env} {k k1 k2 : Nat} {d e : D} {b : Bool} (h : f ρ k = some (d, k1)) (h1 : g ρ k1 = some (e, k2)) (hc : c d e = some b) : dBinB c f g ρ k = some (b, k2) := by
  simp only [dBinB, M.bind, h, h1, hc, M.lift]
theorem bin_ok {G : D → D → Option D} {f g : Sem} {ρ : Env} {k k1 k2 : Nat} {x y z : D} (h : f ρ k = some (x, k1)) (h1 : g ρ k1 = some (y, k2)) (hg : G x y = some z) : dBin G f g ρ k = some (z, k2) := by simp only [dBin, M.bind, h, h1, hg, M.lift]
theorem lc_put {i : Nat} {f : Sem} {ρ : Env} {d x : D} {ds xs : List D} {k k1 k2 : Nat} (hf : f (ρ.set i (.val d)) k = some (x, k1)) (hr : lcLoop (tgName i) dTrue f ρ ds k1 = some (xs, k2)) : lcLoop (tgName i) dTrue f ρ (d :: ds) k = some (x :: xs, k2) := by
  simp only [lcLoop, put_name, M.bind, dTrue, hf, hr, M.pure]
theorem lc_nil {i : Nat} {f : Sem} {ρ : Env} {k : Nat} : lcLoop (tgName i) dTrue f ρ [] k = some ([], k) := rfl
theorem lc_ok {vs : List Nat} {it : SemL} {i : Nat} {f : Sem} {ρ : Env} {ds xs : List D} {k k1 k2 : Nat} (h : it ρ k = some (ds, k1)) (hl : lcLoop (tgName i) dTrue f (wipeE ρ vs) ds k1 = some (xs, k2)) (hx : lim xs.length = true) : dLc vs it (tgName i) dTrue f ρ k = some (.lst xs, k2) := by
  simp only [dLc, M.bind, h, hl, M.lift, hx, if_true]
theorem items_ok {f : Sem} {ρ : Env} {d : D} {ds : List D} {k k' : Nat} (h : f ρ k = some (d, k')) (hi : d.items = some ds) : dItems f ρ k = some (ds, k') := by simp only [dItems, M.bind, h, hi, M.lift]
theorem bi_ok {g : List D → Option D} {f : SemL} {ρ : Env} {ds : List D} {d : D} {k k' : Nat} (h : f ρ k = some (ds, k')) (hg : g ds = some d) : dBi g f ρ k = some (d, k') := by simp only [dBi, M.bind, h, hg, M.lift]
theorem cons1_ok {f : Sem} {ρ : Env} {k k1 : Nat} {d : D} (h1 : f ρ k = some (d, k1)) : dCons f dNil ρ k = some ([d], k1) := by simp only [dCons, dNil, M.bind, M.pure, h1]
theorem and_2f {f g : SemB} {ρ : Env} {k k1 : Nat} {b : Bool} (hf : f ρ k = some (b, k)) (hg : g ρ k = some (false, k1)) (h1 : k1 = k) : dAndB f g ρ k = some (false, k) := by
  subst h1
  cases b with
  | true => exact and_t hf hg
  | false => exact and_f hf
theorem if_t {c : SemB} {f g : Sem} {ρ : Env} {k k' : Nat} (h : c ρ k = some (true, k')) : dIf c f g ρ k = f ρ k' := by simp only [dIf, M.bind, h]
theorem if_f {c : SemB} {f g : Sem} {ρ : Env} {k k' : Nat} (h : c ρ k = some (false, k')) : dIf c f g ρ k = g ρ k' := by simp only [dIf, M.bind, h]
theorem notV_ok {f : Sem} {ρ : Env} {k k' : Nat} {b : Bool} (h : f ρ k = some (.bl b, k')) : dNotV f ρ k = some (.bl (!b), k') := by simp only [dNotV, M.bind, h, D.tru, M.lift, M.pure]
theorem ne_int {f g : Sem} {ρ : Env} {k k1 k2 : Nat} {i : Int} (h : f ρ k = some (.int i, k1)) (h1 : g ρ k1 = some (.int i, k2)) : dEqB eqT true f g ρ k = some (false, k2) := ne_not (fun _ _ z => by cases z) h h1 (by rw [eq_int]; simp)
theorem ge {ρ : Env} {i : Nat} {s : Slot} (h : i < ρ.length) : (ρ.set i s)[i]? = some s := List.getElem?_set_self h
/-- a loop that keeps what P says -/
theorem for_keep {t : Tg} {b : SemS} {P : Env → Prop} : ∀ (ds : List D) {ρ : Env} {k : Nat}, P ρ → (∀ d ∈ ds, ∀ ρ, P ρ → ∃ ρ1 ρ2, t.put d ρ = some ρ1 ∧ b ρ1 k = some (.nx ρ2, k) ∧ P ρ2) → ∃ ρ', forLoop t b ds ρ k = some (.nx ρ', k) ∧ P ρ'
  | [], ρ, k, h, _ => ⟨ρ, rfl, h⟩
  | d :: ds, ρ, k, h, s => by
    obtain ⟨ρ1, ρ2, e1, e2, h2⟩ := s d List.mem_cons_self ρ h
    obtain ⟨ρ3, e3, h3⟩ := for_keep ds h2 fun d hd => s d (List.mem_cons_of_mem _ hd)
    refine ⟨ρ3, ?_, h3⟩
    unfold forLoop
    rw [e1]
    simp only [M.bind, e2, e3]
/-- the same, where what is drawn goes on -/
theorem for_go {t : Tg} {b : SemS} {P : Env → Prop} : ∀ (ds : List D) {ρ : Env} {k : Nat}, P ρ → (∀ d ∈ ds, ∀ ρ k, P ρ → ∃ ρ1 ρ2 k2, t.put d ρ = some ρ1 ∧ b ρ1 k = some (.nx ρ2, k2) ∧ P ρ2) → ∃ ρ' k', forLoop t b ds ρ k = some (.nx ρ', k') ∧ P ρ'
  | [], ρ, k, h, _ => ⟨ρ, k, rfl, h⟩
  | d :: ds, ρ, k, h, s => by
    obtain ⟨ρ1, ρ2, k2, e1, e2, h2⟩ := s d List.mem_cons_self ρ k h
    obtain ⟨ρ3, k3, e3, h3⟩ := for_go ds (k := k2) h2 fun d hd => s d (List.mem_cons_of_mem _ hd)
    refine ⟨ρ3, k3, ?_, h3⟩
    unfold forLoop
    rw [e1]
    simp only [M.bind, e2, e3]
theorem m2_ok {g : D → D → M Bool} {neg : Bool} {f1 f2 : Sem} {ρ : Env} {k k1 k2 k3 : Nat} {x y : D} {b : Bool} (h1 : f1 ρ k = some (x, k1)) (h2 : f2 ρ k1 = some (y, k2)) (h : g x y k2 = some (b, k3)) : dM2 neg g f1 f2 ρ k = some (xor neg b, k3) := by
  simp only [dM2, M.bind, h1, h2, h, M.pure]
theorem val_ok {t : SemB} {ρ : Env} {k k' : Nat} {b : Bool} (h : t ρ k = some (b, k')) : dVal t ρ k = some (.bl b, k') := by simp only [dVal, M.bind, h, M.pure]
theorem un_ok {g : D → Option D} {f : Sem} {k1 : Nat} {x y : D} (h : f ρ k = some (x, k1)) (hg : g x = some y) : dUn g f ρ k = some (y, k1) := by simp only [dUn, M.bind, h, hg, M.lift]
theorem make_ok {c : Cn} {n : Nat} {F : FnI} {g : SemL} {ds fs : List D} {k1 k2 : Nat} (h : g ρ k = some (ds, k1)) (hn : ds.length = n) (hF : F ds k1 = some (fs, k2)) (hl : fs.length = c.fields.length) : dMake c n F g ρ k = some (.ins c fs, k2) := by
  have e1 : Nat.beq ds.length n = true := by rw [hn]; exact Nat.beq_refl n
  have e2 : Nat.beq fs.length c.fields.length = true := by rw [hl]; exact Nat.beq_refl _
  simp only [dMake, M.bind, h, e1, hF, e2, M.pure]
end Sky

end
section
namespace Sky
open PySem PySem.Spec PyProof.Rows L2
theorem fdiv_ok' {i j : Int} (h : divOk j = true) : D.fdiv (.int i) (.int j) = some (.int (i / j)) := if_pos h
theorem num_loop {k : Nat} {a b c t : D} : ∀ (ds : List D) (r : Int) (s : Slot), ∃ r' s', forLoop (tgName 5) (sSeq (sAsg (dBin D.fdiv (dV 4) (dC (.int 1009))) (tgName 4)) sNext) ds [.val a, .val b, .val c, .val t, .val (.int r), s, .no] k =
    some (.nx [.val a, .val b, .val c, .val t, .val (.int r'), s', .no], k) := by
  intro ds
  induction ds with
  | nil => intro r s; exact ⟨r, s, rfl⟩
  | cons d ds ih =>
    intro r s
    obtain ⟨r', s', e⟩ := ih (r / 1009) (.val d)
    refine ⟨r', s', ?_⟩
    have h : divOk 1009 = true := by decide
    unfold forLoop
    simp only [tgName, List.set]
    have step : (sSeq (sAsg (dBin D.fdiv (dV 4) (dC (.int 1009))) (tgName 4)) sNext) [.val a, .val b, .val c, .val t, .val (.int r), .val d, .no] k = some (.nx [.val a, .val b, .val c, .val t, .val (.int (r / 1009)), .val d, .no], k) := by
      simp [↓runB, ↓runI, ↓startE, ↓startI, ↓sSeq, ↓sRet, ↓sRetN, ↓sIf, ↓sAsg, ↓sDrop, ↓sFail, ↓sNext, ↓sPar2, ↓sPar3, ↓sFor, ↓forLoop, ↓sMe, ↓M.bind, ↓M.pure, ↓M.lift, ↓M.fail, ↓dBi, ↓dLc, ↓lcLoop, ↓dZip, ↓zipD, ↓pairD, ↓dEnumA, ↓enumD, ↓rangeD, ↓dRng, ↓dItems, ↓dCons, ↓dNil, ↓dBin, ↓dBinB, ↓dTup, ↓dLst, ↓dUn, ↓dIf, ↓dAndB, ↓dOrB, ↓dAndV, ↓dOrV, ↓dNotV, ↓D.tru, ↓dNotB, ↓dVal, ↓dIsi, ↓dIsiT, ↓dFld, ↓dCall, ↓dMake, ↓dEq, ↓dEqB, ↓dEqD, ↓dV, ↓dVR, ↓dC, ↓dTrue, ↓dTru, ↓tgTup, ↓tgsCons, ↓tgName, ↓tgsNil, ↓wipeE, ↓bSum, ↓bLen, ↓bAbs, ↓bTup, ↓bLst, ↓bAll, ↓bAny, ↓intsD, ↓boolsD, ↓D.add, ↓D.sub, ↓D.neg, ↓D.ix, ↓atI, ↓ixN, ↓D.mod, ↓D.kl, ↓Kl.sub, ↓Kl.subs, ↓Cn.fields, ↓cLt, ↓cLe, ↓cGe, ↓cGtA, ↓cIs, ↓cIsNot, ↓D.isNon, ↓D.items, ↓rng, ↓okR, ↓lim, ↓eq0, ↓dMeth, ↓dGet1, ↓keyD, ↓sFrz, ↓sOwn, ↓sApp, ↓dDrw0, ↓dDrw1, ↓sInc, ↓dLenS, ↓dIxS, ↓dNeS, ↓dPow, ↓bInt, ↓eqT, fdiv_ok' h]
    simp only [tgName] at step e
    simp only [M.bind, step, e]
theorem idx_ok {ns : List Int} {i : Int} (hn : ns ≠ []) (hi : 0 ≤ i) : ∃ j, atI ns (i % (ns.length : Int)) = some j := by
  have hl : 0 < ns.length := by cases ns <;> first | exact absurd rfl hn | exact Nat.succ_pos _
  have h1 := Int.emod_nonneg i (b := (ns.length : Int)) (by omega)
  have h2 := Int.emod_lt_of_pos i (b := (ns.length : Int)) (by omega)
  have h3 : (i % (ns.length : Int)).toNat < ns.length := by omega
  refine ⟨ns[(i % (ns.length : Int)).toNat], ?_⟩
  unfold atI ixN
  rw [if_pos h1, if_pos h2]
  simp [h3]
theorem num_rest {ns : List Int} (hn : ns.length ≤ 63) {cell turn i : Int} {k : Nat} (ht : 0 ≤ turn) : ∃ v, (match (sSeq (sAsg (dIf (dBinB cLt (dV 3) (dC (.int 60))) (dBin D.sub (dV 2) (dPow 10 18)) (dC (.int 0))) (tgName 4)) (sSeq (sFor (dRng (dCons (dBin D.mod (dBi bInt (dCons (dV 3) (dNil))) (dC (.int 60))) dNil)) (tgName 5) (sSeq (sAsg (dBin D.fdiv (dV 4) (dC (.int 1009))) (tgName 4)) (sNext))) (sSeq (sIf (dBinB cGtA (dV 4) (dC (.int 0))) (sSeq (sRet (dBin D.mod (dBi bInt (dCons (dV 4) (dNil))) (dC (.int 1009)))) (sNext)) (sNext)) (sSeq (sAsg (dBin D.mod (dBin D.add (dBin D.mul (dBi bInt (dCons (dBin D.add (dV 2) (dBin D.mul (dC (.int 977)) (dV 1))) (dNil))) (dC (.int 48271))) (dBin D.mul (dC (.int 31)) (dLenS ns (dV 0)))) (dC (.int 2147483647))) (tgName 6)) (sSeq (sAsg (dBin D.mod (dBin D.add (dBin D.mul (dV 6) (dV 6)) (dBin D.mul (dC (.int 40503)) (dV 1))) (dC (.int 2147483629))) (tgName 6)) (sSeq (sRet (dBi bInt (dCons (dBin D.mod (dBin D.add (dBin D.mul (dV 6) (dC (.int 69621))) (dBin D.fdiv (dV 6) (dC (.int 977)))) (dC (.int 2147483587))) (dNil)))) (sNext))))))) [.val .scr, .val (.int i), .val (.int cell), .val (.int turn), .no, .no, .no] k with
    | some (.nx _, k') => some (D.non, k')
    | some (.ret d, k') => some (d, k')
    | _ => none) = some (.int v, k) := by
  have h0 : ∃ r : Int, (sAsg (dIf (dBinB cLt (dV 3) (dC (.int 60))) (dBin D.sub (dV 2) (dPow 10 18)) (dC (.int 0))) (tgName 4)) [.val .scr, .val (.int i), .val (.int cell), .val (.int turn), .no, .no, .no] k = some (.nx [.val .scr, .val (.int i), .val (.int cell), .val (.int turn), .val (.int r), .no, .no], k) := by
    by_cases c : turn < 60
    · exact ⟨cell - 10 ^ 18, by simp [↓runB, ↓runI, ↓startE, ↓startI, ↓sSeq, ↓sRet, ↓sRetN, ↓sIf, ↓sAsg, ↓sDrop, ↓sFail, ↓sNext, ↓sPar2, ↓sPar3, ↓sFor, ↓forLoop, ↓sMe, ↓M.bind, ↓M.pure, ↓M.lift, ↓M.fail, ↓dBi, ↓dLc, ↓lcLoop, ↓dZip, ↓zipD, ↓pairD, ↓dEnumA, ↓enumD, ↓rangeD, ↓dRng, ↓dItems, ↓dCons, ↓dNil, ↓dBin, ↓dBinB, ↓dTup, ↓dLst, ↓dUn, ↓dIf, ↓dAndB, ↓dOrB, ↓dAndV, ↓dOrV, ↓dNotV, ↓D.tru, ↓dNotB, ↓dVal, ↓dIsi, ↓dIsiT, ↓dFld, ↓dCall, ↓dMake, ↓dEq, ↓dEqB, ↓dEqD, ↓dV, ↓dVR, ↓dC, ↓dTrue, ↓dTru, ↓tgTup, ↓tgsCons, ↓tgName, ↓tgsNil, ↓wipeE, ↓bSum, ↓bLen, ↓bAbs, ↓bTup, ↓bLst, ↓bAll, ↓bAny, ↓intsD, ↓boolsD, ↓D.add, ↓D.sub, ↓D.neg, ↓D.ix, ↓atI, ↓ixN, ↓D.mod, ↓D.kl, ↓Kl.sub, ↓Kl.subs, ↓Cn.fields, ↓cLt, ↓cLe, ↓cGe, ↓cGtA, ↓cIs, ↓cIsNot, ↓D.isNon, ↓D.items, ↓rng, ↓okR, ↓lim, ↓eq0, ↓dMeth, ↓dGet1, ↓keyD, ↓sFrz, ↓sOwn, ↓sApp, ↓dDrw0, ↓dDrw1, ↓sInc, ↓dLenS, ↓dIxS, ↓dNeS, ↓dPow, ↓bInt, ↓eqT, c]⟩
    · exact ⟨0, by simp [↓runB, ↓runI, ↓startE, ↓startI, ↓sSeq, ↓sRet, ↓sRetN, ↓sIf, ↓sAsg, ↓sDrop, ↓sFail, ↓sNext, ↓sPar2, ↓sPar3, ↓sFor, ↓forLoop, ↓sMe, ↓M.bind, ↓M.pure, ↓M.lift, ↓M.fail, ↓dBi, ↓dLc, ↓lcLoop, ↓dZip, ↓zipD, ↓pairD, ↓dEnumA, ↓enumD, ↓rangeD, ↓dRng, ↓dItems, ↓dCons, ↓dNil, ↓dBin, ↓dBinB, ↓dTup, ↓dLst, ↓dUn, ↓dIf, ↓dAndB, ↓dOrB, ↓dAndV, ↓dOrV, ↓dNotV, ↓D.tru, ↓dNotB, ↓dVal, ↓dIsi, ↓dIsiT, ↓dFld, ↓dCall, ↓dMake, ↓dEq, ↓dEqB, ↓dEqD, ↓dV, ↓dVR, ↓dC, ↓dTrue, ↓dTru, ↓tgTup, ↓tgsCons, ↓tgName, ↓tgsNil, ↓wipeE, ↓bSum, ↓bLen, ↓bAbs, ↓bTup, ↓bLst, ↓bAll, ↓bAny, ↓intsD, ↓boolsD, ↓D.add, ↓D.sub, ↓D.neg, ↓D.ix, ↓atI, ↓ixN, ↓D.mod, ↓D.kl, ↓Kl.sub, ↓Kl.subs, ↓Cn.fields, ↓cLt, ↓cLe, ↓cGe, ↓cGtA, ↓cIs, ↓cIsNot, ↓D.isNon, ↓D.items, ↓rng, ↓okR, ↓lim, ↓eq0, ↓dMeth, ↓dGet1, ↓keyD, ↓sFrz, ↓sOwn, ↓sApp, ↓dDrw0, ↓dDrw1, ↓sInc, ↓dLenS, ↓dIxS, ↓dNeS, ↓dPow, ↓bInt, ↓eqT, c]⟩
  obtain ⟨r, h0⟩ := h0
  have hm := Int.emod_nonneg turn (b := 60) (by omega)
  have hm2 := Int.emod_lt_of_pos turn (b := 60) (by omega)
  have ho : okR (turn % 60) = true := by
    unfold okR
    rw [Bool.and_eq_true_iff]
    exact ⟨decide_eq_true (by omega), decide_eq_true (by omega)⟩
  obtain ⟨r', s', h1⟩ := num_loop (k := k) (a := .scr) (b := .int i) (c := .int cell) (t := .int turn) (rangeD 0 (turn % 60).toNat) r .no
  have h2 : sFor (dRng (dCons (dBin D.mod (dBi bInt (dCons (dV 3) (dNil))) (dC (.int 60))) dNil)) (tgName 5) (sSeq (sAsg (dBin D.fdiv (dV 4) (dC (.int 1009))) (tgName 4)) (sNext)) [.val .scr, .val (.int i), .val (.int cell), .val (.int turn), .val (.int r), .no, .no] k = some (.nx [.val .scr, .val (.int i), .val (.int cell), .val (.int turn), .val (.int r'), s', .no], k) := by
    unfold sFor
    have e : dRng (dCons (dBin D.mod (dBi bInt (dCons (dV 3) (dNil))) (dC (.int 60))) dNil) [.val .scr, .val (.int i), .val (.int cell), .val (.int turn), .val (.int r), .no, .no] k = some (rangeD 0 (turn % 60).toNat, k) := by
      simp [↓dRng, ↓dCons, ↓dBin, ↓D.mod, ↓dBi, ↓bInt, ↓dV, ↓dC, ↓dNil, ↓M.bind, ↓M.pure, ↓M.lift, ↓rng, ho]
    simp only [M.bind, e, h1]
  have seq : ∀ {f g : SemS} {ρ ρ' : Env} {k k' : Nat}, f ρ k = some (.nx ρ', k') → sSeq f g ρ k = g ρ' k' := fun h => by simp only [sSeq, M.bind, h]
  rw [seq h0, seq h2]
  by_cases c : 0 < r'
  · exact ⟨r' % 1009, by simp [↓runB, ↓runI, ↓startE, ↓startI, ↓sSeq, ↓sRet, ↓sRetN, ↓sIf, ↓sAsg, ↓sDrop, ↓sFail, ↓sNext, ↓sPar2, ↓sPar3, ↓sFor, ↓forLoop, ↓sMe, ↓M.bind, ↓M.pure, ↓M.lift, ↓M.fail, ↓dBi, ↓dLc, ↓lcLoop, ↓dZip, ↓zipD, ↓pairD, ↓dEnumA, ↓enumD, ↓rangeD, ↓dRng, ↓dItems, ↓dCons, ↓dNil, ↓dBin, ↓dBinB, ↓dTup, ↓dLst, ↓dUn, ↓dIf, ↓dAndB, ↓dOrB, ↓dAndV, ↓dOrV, ↓dNotV, ↓D.tru, ↓dNotB, ↓dVal, ↓dIsi, ↓dIsiT, ↓dFld, ↓dCall, ↓dMake, ↓dEq, ↓dEqB, ↓dEqD, ↓dV, ↓dVR, ↓dC, ↓dTrue, ↓dTru, ↓tgTup, ↓tgsCons, ↓tgName, ↓tgsNil, ↓wipeE, ↓bSum, ↓bLen, ↓bAbs, ↓bTup, ↓bLst, ↓bAll, ↓bAny, ↓intsD, ↓boolsD, ↓D.add, ↓D.sub, ↓D.neg, ↓D.ix, ↓atI, ↓ixN, ↓D.mod, ↓D.kl, ↓Kl.sub, ↓Kl.subs, ↓Cn.fields, ↓cLt, ↓cLe, ↓cGe, ↓cGtA, ↓cIs, ↓cIsNot, ↓D.isNon, ↓D.items, ↓rng, ↓okR, ↓lim, ↓eq0, ↓dMeth, ↓dGet1, ↓keyD, ↓sFrz, ↓sOwn, ↓sApp, ↓dDrw0, ↓dDrw1, ↓sInc, ↓dLenS, ↓dIxS, ↓dNeS, ↓dPow, ↓bInt, ↓eqT, c]⟩
  · have d1 : divOk 977 = true := by decide
    have hb : ∀ x : Int, (x % 2147483629).natAbs < 18446744073709551616 := fun x => by
      have a1 := Int.emod_nonneg x (b := 2147483629) (by omega)
      have a2 := Int.emod_lt_of_pos x (b := 2147483629) (by omega)
      omega
    have hb2 : ∀ x : Int, (x % 2147483647).natAbs < 18446744073709551616 := fun x => by
      have a1 := Int.emod_nonneg x (b := 2147483647) (by omega)
      have a2 := Int.emod_lt_of_pos x (b := 2147483647) (by omega)
      omega
    have m1 : ∀ x, D.mul (.int x) (.int 48271) = some (.int (x * 48271)) := fun x => mul_ok (mulOk_of2 (by decide))
    have m2 : ∀ x, D.mul (.int 977) (.int x) = some (.int (977 * x)) := fun x => mul_sm (by decide)
    have m3 : ∀ x, D.mul (.int 31) (.int x) = some (.int (31 * x)) := fun x => mul_sm (by decide)
    have m4 : ∀ x, D.mul (.int 40503) (.int x) = some (.int (40503 * x)) := fun x => mul_sm (by decide)
    have m5 : ∀ x, D.mul (.int x) (.int 69621) = some (.int (x * 69621)) := fun x => mul_ok (mulOk_of2 (by decide))
    have m6 : ∀ x y, D.mul (.int (x % 2147483647)) (.int y) = some (.int (x % 2147483647 * y)) := fun x y => mul_sm (hb2 x)
    exact ⟨_, by simp [↓runB, ↓runI, ↓startE, ↓startI, ↓sSeq, ↓sRet, ↓sRetN, ↓sIf, ↓sAsg, ↓sDrop, ↓sFail, ↓sNext, ↓sPar2, ↓sPar3, ↓sFor, ↓forLoop, ↓sMe, ↓M.bind, ↓M.pure, ↓M.lift, ↓M.fail, ↓dBi, ↓dLc, ↓lcLoop, ↓dZip, ↓zipD, ↓pairD, ↓dEnumA, ↓enumD, ↓rangeD, ↓dRng, ↓dItems, ↓dCons, ↓dNil, ↓dBin, ↓dBinB, ↓dTup, ↓dLst, ↓dUn, ↓dIf, ↓dAndB, ↓dOrB, ↓dAndV, ↓dOrV, ↓dNotV, ↓D.tru, ↓dNotB, ↓dVal, ↓dIsi, ↓dIsiT, ↓dFld, ↓dCall, ↓dMake, ↓dEq, ↓dEqB, ↓dEqD, ↓dV, ↓dVR, ↓dC, ↓dTrue, ↓dTru, ↓tgTup, ↓tgsCons, ↓tgName, ↓tgsNil, ↓wipeE, ↓bSum, ↓bLen, ↓bAbs, ↓bTup, ↓bLst, ↓bAll, ↓bAny, ↓intsD, ↓boolsD, ↓D.add, ↓D.sub, ↓D.neg, ↓D.ix, ↓atI, ↓ixN, ↓D.mod, ↓D.kl, ↓Kl.sub, ↓Kl.subs, ↓Cn.fields, ↓cLt, ↓cLe, ↓cGe, ↓cGtA, ↓cIs, ↓cIsNot, ↓D.isNon, ↓D.items, ↓rng, ↓okR, ↓lim, ↓eq0, ↓dMeth, ↓dGet1, ↓keyD, ↓sFrz, ↓sOwn, ↓sApp, ↓dDrw0, ↓dDrw1, ↓sInc, ↓dLenS, ↓dIxS, ↓dNeS, ↓dPow, ↓bInt, ↓eqT, c, m1, m2, m3, m4, m5, m6, fdiv_ok' d1]; rfl⟩
theorem number_spec {ns : List Int} (hn : ns.length ≤ 63) {i : Int} {k : Nat} (hi : 0 ≤ i) : ∃ v, F__law_number ns [.scr, .int i] k = some (.int v, k) := by
  have seq : ∀ {f g : SemS} {ρ ρ' : Env} {k k' : Nat}, f ρ k = some (.nx ρ', k') → sSeq f g ρ k = g ρ' k' := fun h => by simp only [sSeq, M.bind, h]
  by_cases c : ns = []
  · subst c
    obtain ⟨v, h⟩ := num_rest (ns := []) (cell := 12345) (turn := 0) (i := i) (k := k) (by decide) (by decide)
    refine ⟨v, ?_⟩
    unfold F__law_number runB S__law_number
    rw [seq (ρ' := [.val .scr, .val (.int i), .val (.int 12345), .val (.int 0), .no, .no, .no]) (k' := k) (by simp [↓runB, ↓runI, ↓startE, ↓startI, ↓sSeq, ↓sRet, ↓sRetN, ↓sIf, ↓sAsg, ↓sDrop, ↓sFail, ↓sNext, ↓sPar2, ↓sPar3, ↓sFor, ↓forLoop, ↓sMe, ↓M.bind, ↓M.pure, ↓M.lift, ↓M.fail, ↓dBi, ↓dLc, ↓lcLoop, ↓dZip, ↓zipD, ↓pairD, ↓dEnumA, ↓enumD, ↓rangeD, ↓dRng, ↓dItems, ↓dCons, ↓dNil, ↓dBin, ↓dBinB, ↓dTup, ↓dLst, ↓dUn, ↓dIf, ↓dAndB, ↓dOrB, ↓dAndV, ↓dOrV, ↓dNotV, ↓D.tru, ↓dNotB, ↓dVal, ↓dIsi, ↓dIsiT, ↓dFld, ↓dCall, ↓dMake, ↓dEq, ↓dEqB, ↓dEqD, ↓dV, ↓dVR, ↓dC, ↓dTrue, ↓dTru, ↓tgTup, ↓tgsCons, ↓tgName, ↓tgsNil, ↓wipeE, ↓bSum, ↓bLen, ↓bAbs, ↓bTup, ↓bLst, ↓bAll, ↓bAny, ↓intsD, ↓boolsD, ↓D.add, ↓D.sub, ↓D.neg, ↓D.ix, ↓atI, ↓ixN, ↓D.mod, ↓D.kl, ↓Kl.sub, ↓Kl.subs, ↓Cn.fields, ↓cLt, ↓cLe, ↓cGe, ↓cGtA, ↓cIs, ↓cIsNot, ↓D.isNon, ↓D.items, ↓rng, ↓okR, ↓lim, ↓eq0, ↓dMeth, ↓dGet1, ↓keyD, ↓sFrz, ↓sOwn, ↓sApp, ↓dDrw0, ↓dDrw1, ↓sInc, ↓dLenS, ↓dIxS, ↓dNeS, ↓dPow, ↓bInt, ↓eqT])]
    exact h
  · obtain ⟨j, hj⟩ := idx_ok c hi
    have hl : 0 < ns.length := by cases ns <;> first | exact absurd rfl c | exact Nat.succ_pos _
    have hq : 0 ≤ i / (ns.length : Int) := Int.ediv_nonneg hi (by omega)
    obtain ⟨v, h⟩ := num_rest (ns := ns) hn (cell := j) (turn := i / (ns.length : Int)) (i := i) (k := k) hq
    refine ⟨v, ?_⟩
    unfold F__law_number runB S__law_number
    have hd : divOk (ns.length : Int) = true := divOk_of (by omega) (by omega)
    have he : ns.isEmpty = false := by cases ns <;> first | rfl | exact absurd rfl c
    rw [seq (ρ' := [.val .scr, .val (.int i), .val (.int j), .val (.int (i / (ns.length : Int))), .no, .no, .no]) (k' := k) (by simp [↓sAsg, ↓dIf, ↓dNeS, ↓dTup, ↓dCons, ↓dNil, ↓dIxS, ↓dBin, ↓D.mod, ↓dLenS, ↓dV, ↓M.bind, ↓M.pure, ↓M.lift, ↓startE, ↓tgTup, ↓tgsCons, ↓tgName, ↓tgsNil, ↓lim, he, hj, hl, fdiv_ok' hd])]
    exact h
theorem take_spec {ns : List Int} (hn : ns.length ≤ 63) {m : Int} {k : Nat} (hm : 0 < m) : ∃ v, 0 ≤ v ∧ v < m ∧ F__law_take ns [.drw, .int m] k = some (.int v, k + 1) := by
  obtain ⟨v, h⟩ := number_spec hn (i := ((k + 1 : Nat) : Int)) (k := k + 1) (by omega)
  refine ⟨v % m, Int.emod_nonneg _ (by omega), Int.emod_lt_of_pos _ hm, ?_⟩
  have h' : F__law_number ns [D.scr, D.int (↑k + 1)] (k + 1) = some (D.int v, k + 1) := by simpa using h
  simp [↓runB, ↓runI, ↓startE, ↓startI, ↓sSeq, ↓sRet, ↓sRetN, ↓sIf, ↓sAsg, ↓sDrop, ↓sFail, ↓sNext, ↓sPar2, ↓sPar3, ↓sFor, ↓forLoop, ↓sMe, ↓M.bind, ↓M.pure, ↓M.lift, ↓M.fail, ↓dBi, ↓dLc, ↓lcLoop, ↓dZip, ↓zipD, ↓pairD, ↓dEnumA, ↓enumD, ↓rangeD, ↓dRng, ↓dItems, ↓dCons, ↓dNil, ↓dBin, ↓dBinB, ↓dTup, ↓dLst, ↓dUn, ↓dIf, ↓dAndB, ↓dOrB, ↓dAndV, ↓dOrV, ↓dNotV, ↓D.tru, ↓dNotB, ↓dVal, ↓dIsi, ↓dIsiT, ↓dFld, ↓dCall, ↓dMake, ↓dEq, ↓dEqB, ↓dEqD, ↓dV, ↓dVR, ↓dC, ↓dTrue, ↓dTru, ↓tgTup, ↓tgsCons, ↓tgName, ↓tgsNil, ↓wipeE, ↓bSum, ↓bLen, ↓bAbs, ↓bTup, ↓bLst, ↓bAll, ↓bAny, ↓intsD, ↓boolsD, ↓D.add, ↓D.sub, ↓D.neg, ↓D.ix, ↓atI, ↓ixN, ↓D.mod, ↓D.kl, ↓Kl.sub, ↓Kl.subs, ↓Cn.fields, ↓cLt, ↓cLe, ↓cGe, ↓cGtA, ↓cIs, ↓cIsNot, ↓D.isNon, ↓D.items, ↓rng, ↓okR, ↓lim, ↓eq0, ↓dMeth, ↓dGet1, ↓keyD, ↓sFrz, ↓sOwn, ↓sApp, ↓dDrw0, ↓dDrw1, ↓sInc, ↓dLenS, ↓dIxS, ↓dNeS, ↓dPow, ↓bInt, ↓eqT, F__law_take, S__law_take, h', hm]
end Sky

end
section
namespace Sky
open PySem PySem.Spec PyProof.Rows L2
theorem ix_lst {ds : List D} {v : Int} (h0 : 0 ≤ v) (h1 : v < ds.length) : ∃ d, d ∈ ds ∧ D.ix (.lst ds) (.int v) = some d := by
  have h2 : v.toNat < ds.length := by omega
  refine ⟨ds[v.toNat], List.getElem_mem h2, ?_⟩
  simp only [D.ix, atI, ixN]
  rw [if_pos h0, if_pos h1]
  simp [h2]
def skyL : List (Int × Int × Int) := [(1, 0, 0), (0, 1, 0), (0, 0, 1), (1, 2, 2), (2, 1, 2), (2, 2, 1), (3, 0, 4), (0, 3, 4), (4, 3, 0), (2, 3, 6), (6, 2, 3), (1, 4, 8), (1, 1, 0), (1, 1, 1)]
abbrev v3t (t : Int × Int × Int) : D := v3 t.1 t.2.1 t.2.2
theorem pick_spec {ns : List Int} (hn : ns.length ≤ 63) {ds : List D} {k : Nat} (h : 0 < ds.length) : ∃ d, d ∈ ds ∧ F__law_pick ns [.drw, .lst ds] k = some (d, k + 1) := by
  obtain ⟨v, h0, h1, e⟩ := take_spec hn (m := (ds.length : Int)) (k := k) (by omega)
  obtain ⟨d, hd, e2⟩ := ix_lst h0 h1
  refine ⟨d, hd, ?_⟩
  simp [↓F__law_pick, ↓S__law_pick, ↓runB, ↓startE, ↓sSeq, ↓sRet, ↓dBin, ↓dV, ↓dCall, ↓dCons, ↓dNil, ↓dBi, ↓bLen, ↓M.bind, ↓M.pure, ↓M.lift, e, e2]
theorem sky_row {ns : List Int} (hn : ns.length ≤ 63) {k : Nat} : ∃ t k', t ∈ skyL ∧ (dIf (dBinB cGtA (dCall 2 (F__law_take ns) (dCons (dV 0) (dCons (dC (.int 8)) (dNil)))) (dC (.int 0))) (dBin D.ix (dV 1) (dCall 2 (F__law_take ns) (dCons (dV 0) (dCons (dC (.int 12)) (dNil))))) (dCall 2 (F__law_pick ns) (dCons (dV 0) (dCons (dV 1) (dNil))))) [.val .drw, .val (.lst (skyL.map v3t)), .no, .no] k = some (v3t t, k') := by
  obtain ⟨v, h0, h1, e⟩ := take_spec hn (m := 8) (k := k) (by decide)
  by_cases c : 0 < v
  · obtain ⟨u, g0, g1, e2⟩ := take_spec hn (m := 12) (k := k + 1) (by decide)
    obtain ⟨d, hd, e3⟩ := ix_lst (ds := skyL.map v3t) g0 (by show u < 14; omega)
    obtain ⟨t, ht, rfl⟩ := List.mem_map.mp hd
    refine ⟨t, k + 1 + 1, ht, ?_⟩
    simp [↓dIf, ↓dBinB, ↓dCall, ↓dCons, ↓dNil, ↓dV, ↓dC, ↓dBin, ↓cGtA, ↓M.bind, ↓M.pure, ↓M.lift, e, e2, e3, c]
  · obtain ⟨d, hd, e3⟩ := pick_spec hn (ds := skyL.map v3t) (k := k + 1) (by decide)
    obtain ⟨t, ht, rfl⟩ := List.mem_map.mp hd
    refine ⟨t, k + 1 + 1, ht, ?_⟩
    simp [↓dIf, ↓dBinB, ↓dCall, ↓dCons, ↓dNil, ↓dV, ↓dC, ↓dBin, ↓cGtA, ↓M.bind, ↓M.pure, ↓M.lift, e, e3, c]
def Pm (x y : Int) : Prop := y = x ∨ y = 0 - x
/-- a drawn direction -/
def Sk (x y z : Int) : Prop := ∃ t, t ∈ skyL ∧ Pm t.1 x ∧ Pm t.2.1 y ∧ Pm t.2.2 z
theorem sky_spec {ns : List Int} (hn : ns.length ≤ 63) {k : Nat} : ∃ x y z k', Sk x y z ∧ F__law_sky ns [.drw] k = some (v3 x y z, k') := by
  obtain ⟨t, k1, ht, e⟩ := sky_row hn (k := k)
  obtain ⟨v0, a0, b0, h0⟩ := take_spec hn (m := 2) (k := k1) (by decide)
  obtain ⟨v1, a1, b1, h1⟩ := take_spec hn (m := 2) (k := k1 + 1) (by decide)
  obtain ⟨v2, a2, b2, h2⟩ := take_spec hn (m := 2) (k := k1 + 1 + 1) (by decide)
  have e0 : (sAsg (dLst (dCons (dTup (dCons (dC (.int 1)) (dCons (dC (.int 0)) (dCons (dC (.int 0)) (dNil))))) (dCons (dTup (dCons (dC (.int 0)) (dCons (dC (.int 1)) (dCons (dC (.int 0)) (dNil))))) (dCons (dTup (dCons (dC (.int 0)) (dCons (dC (.int 0)) (dCons (dC (.int 1)) (dNil))))) (dCons (dTup (dCons (dC (.int 1)) (dCons (dC (.int 2)) (dCons (dC (.int 2)) (dNil))))) (dCons (dTup (dCons (dC (.int 2)) (dCons (dC (.int 1)) (dCons (dC (.int 2)) (dNil))))) (dCons (dTup (dCons (dC (.int 2)) (dCons (dC (.int 2)) (dCons (dC (.int 1)) (dNil))))) (dCons (dTup (dCons (dC (.int 3)) (dCons (dC (.int 0)) (dCons (dC (.int 4)) (dNil))))) (dCons (dTup (dCons (dC (.int 0)) (dCons (dC (.int 3)) (dCons (dC (.int 4)) (dNil))))) (dCons (dTup (dCons (dC (.int 4)) (dCons (dC (.int 3)) (dCons (dC (.int 0)) (dNil))))) (dCons (dTup (dCons (dC (.int 2)) (dCons (dC (.int 3)) (dCons (dC (.int 6)) (dNil))))) (dCons (dTup (dCons (dC (.int 6)) (dCons (dC (.int 2)) (dCons (dC (.int 3)) (dNil))))) (dCons (dTup (dCons (dC (.int 1)) (dCons (dC (.int 4)) (dCons (dC (.int 8)) (dNil))))) (dCons (dTup (dCons (dC (.int 1)) (dCons (dC (.int 1)) (dCons (dC (.int 0)) (dNil))))) (dCons (dTup (dCons (dC (.int 1)) (dCons (dC (.int 1)) (dCons (dC (.int 1)) (dNil))))) (dNil)))))))))))))))) (tgName 1)) [.val .drw, .no, .no, .no] k = some (.nx [.val .drw, .val (.lst (skyL.map v3t)), .no, .no], k) := rfl
  have pm : ∀ (v x : Int), ∃ y, Pm x y ∧ (if v = 0 then D.int x else D.int (0 - x)) = .int y := fun v x => by
    by_cases c : v = 0
    · exact ⟨x, .inl rfl, if_pos c⟩
    · exact ⟨0 - x, .inr rfl, if_neg c⟩
  obtain ⟨x, px, ex⟩ := pm v0 t.1
  obtain ⟨y, py, ey⟩ := pm v1 t.2.1
  obtain ⟨z, pz, ez⟩ := pm v2 t.2.2
  refine ⟨x, y, z, k1 + 1 + 1 + 1, ⟨t, ht, px, py, pz⟩, ?_⟩
  have one : ∀ (v x y : Int) (k : Nat) (s : Slot), F__law_take ns [.drw, .int 2] k = some (.int v, k + 1) → (if v = 0 then D.int x else D.int (0 - x)) = .int y →
      (dIf (dEqB eqT false (dCall 2 (F__law_take ns) (dCons (dV 0) (dCons (dC (.int 2)) (dNil)))) (dC (.int 0))) (dV 3) (dBin D.sub (dC (.int 0)) (dV 3))) [.val .drw, .val (.lst (skyL.map v3t)), .val (v3t t), .val (.int x)] k = some (.int y, k + 1) := fun v x y k s h e => by
    by_cases c : v = 0
    · rw [if_pos c] at e; cases e
      simp [↓runB, ↓runI, ↓startE, ↓startI, ↓sSeq, ↓sRet, ↓sRetN, ↓sIf, ↓sAsg, ↓sDrop, ↓sFail, ↓sNext, ↓sPar2, ↓sPar3, ↓sFor, ↓forLoop, ↓sMe, ↓M.bind, ↓M.pure, ↓M.lift, ↓M.fail, ↓dBi, ↓dLc, ↓lcLoop, ↓dZip, ↓zipD, ↓pairD, ↓dEnumA, ↓enumD, ↓rangeD, ↓dRng, ↓dItems, ↓dCons, ↓dNil, ↓dBin, ↓dBinB, ↓dTup, ↓dLst, ↓dUn, ↓dIf, ↓dAndB, ↓dOrB, ↓dAndV, ↓dOrV, ↓dNotV, ↓D.tru, ↓dNotB, ↓dVal, ↓dIsi, ↓dIsiT, ↓dFld, ↓dCall, ↓dMake, ↓dEq, ↓dEqB, ↓dEqD, ↓dV, ↓dVR, ↓dC, ↓dTrue, ↓dTru, ↓tgTup, ↓tgsCons, ↓tgName, ↓tgsNil, ↓wipeE, ↓bSum, ↓bLen, ↓bAbs, ↓bTup, ↓bLst, ↓bAll, ↓bAny, ↓intsD, ↓boolsD, ↓D.add, ↓D.sub, ↓D.neg, ↓D.ix, ↓atI, ↓ixN, ↓D.mod, ↓D.kl, ↓Kl.sub, ↓Kl.subs, ↓Cn.fields, ↓cLt, ↓cLe, ↓cGe, ↓cGtA, ↓cIs, ↓cIsNot, ↓D.isNon, ↓D.items, ↓rng, ↓okR, ↓lim, ↓eq0, ↓dMeth, ↓dGet1, ↓keyD, ↓sFrz, ↓sOwn, ↓sApp, ↓dDrw0, ↓dDrw1, ↓sInc, ↓dLenS, ↓dIxS, ↓dNeS, ↓dPow, ↓bInt, ↓eqT, h, c]
    · rw [if_neg c] at e; cases e
      simp [↓runB, ↓runI, ↓startE, ↓startI, ↓sSeq, ↓sRet, ↓sRetN, ↓sIf, ↓sAsg, ↓sDrop, ↓sFail, ↓sNext, ↓sPar2, ↓sPar3, ↓sFor, ↓forLoop, ↓sMe, ↓M.bind, ↓M.pure, ↓M.lift, ↓M.fail, ↓dBi, ↓dLc, ↓lcLoop, ↓dZip, ↓zipD, ↓pairD, ↓dEnumA, ↓enumD, ↓rangeD, ↓dRng, ↓dItems, ↓dCons, ↓dNil, ↓dBin, ↓dBinB, ↓dTup, ↓dLst, ↓dUn, ↓dIf, ↓dAndB, ↓dOrB, ↓dAndV, ↓dOrV, ↓dNotV, ↓D.tru, ↓dNotB, ↓dVal, ↓dIsi, ↓dIsiT, ↓dFld, ↓dCall, ↓dMake, ↓dEq, ↓dEqB, ↓dEqD, ↓dV, ↓dVR, ↓dC, ↓dTrue, ↓dTru, ↓tgTup, ↓tgsCons, ↓tgName, ↓tgsNil, ↓wipeE, ↓bSum, ↓bLen, ↓bAbs, ↓bTup, ↓bLst, ↓bAll, ↓bAny, ↓intsD, ↓boolsD, ↓D.add, ↓D.sub, ↓D.neg, ↓D.ix, ↓atI, ↓ixN, ↓D.mod, ↓D.kl, ↓Kl.sub, ↓Kl.subs, ↓Cn.fields, ↓cLt, ↓cLe, ↓cGe, ↓cGtA, ↓cIs, ↓cIsNot, ↓D.isNon, ↓D.items, ↓rng, ↓okR, ↓lim, ↓eq0, ↓dMeth, ↓dGet1, ↓keyD, ↓sFrz, ↓sOwn, ↓sApp, ↓dDrw0, ↓dDrw1, ↓sInc, ↓dLenS, ↓dIxS, ↓dNeS, ↓dPow, ↓bInt, ↓eqT, h, c]
  have i0 := one v0 _ _ _ .no h0 ex
  have i1 := one v1 _ _ _ .no h1 ey
  have i2 := one v2 _ _ _ .no h2 ez
  unfold F__law_sky runB S__law_sky
  have st : startE 4 [.drw] = [.val .drw, .no, .no, .no] := rfl
  rw [st, seq_nx e0, seq_nx (ρ' := [.val .drw, .val (.lst (skyL.map v3t)), .val (v3t t), .no]) (k' := k1) (by simp only [sAsg, M.bind, e]; rfl)]
  simp [↓sSeq, ↓sRet, ↓dBi, ↓dCons, ↓dNil, ↓dLc, ↓dItems, ↓D.items, ↓lcLoop, ↓tgName, ↓dTrue, ↓wipeE, ↓M.bind, ↓M.pure, ↓M.lift, ↓bTup, ↓lim, i0, i1, i2, dV]
theorem sky_bd : ∀ t ∈ skyL, t.1.natAbs ≤ 8 ∧ t.2.1.natAbs ≤ 8 ∧ t.2.2.natAbs ≤ 8 ∧ ¬ (t.1 = 0 ∧ t.2.1 = 0 ∧ t.2.2 = 0) := by decide
theorem Sk.bd {x y z : Int} (h : Sk x y z) : x.natAbs ≤ 8 ∧ y.natAbs ≤ 8 ∧ z.natAbs ≤ 8 ∧ ¬ (x = 0 ∧ y = 0 ∧ z = 0) := by
  obtain ⟨t, ht, h1, h2, h3⟩ := h
  obtain ⟨b1, b2, b3, b4⟩ := sky_bd t ht
  unfold Pm at h1 h2 h3
  exact ⟨by omega, by omega, by omega, by omega⟩
theorem skyV {ns : List Int} (hn : ns.length ≤ 63) {k : Nat} : ∃ p : Ve, ∃ k', p.nz ∧ p.Bd 4 ∧ Sk p.x p.y p.z ∧ F__law_sky ns [.drw] k = some (p.D, k') := by
  obtain ⟨x, y, z, k', h, e⟩ := sky_spec hn (k := k)
  obtain ⟨b1, b2, b3, b4⟩ := h.bd
  exact ⟨⟨x, y, z⟩, k', b4, ⟨bd_of 8 b1 (by decide), bd_of 8 b2 (by decide), bd_of 8 b3 (by decide)⟩, h, e⟩
end Sky

end
section
namespace Sky
open PySem PySem.Spec PyProof.Rows L2
-- ### directions 
def Ve.add (p q : Ve) : Ve := ⟨p.x + q.x, p.y + q.y, p.z + q.z⟩
theorem ve_ext {p q : Ve} (h1 : p.x = q.x) (h2 : p.y = q.y) (h3 : p.z = q.z) : p = q := by cases p; cases q; simp only at h1 h2 h3; subst h1 h2 h3; rfl
theorem sm_sm (a b : Int) (p : Ve) : Ve.sm a (Ve.sm b p) = Ve.sm (a * b) p := by simp only [Ve.sm, Ve.mk.injEq]; refine ⟨?_, ?_, ?_⟩ <;> grind
theorem sm_can {a : Int} (ha : 0 < a) {p q : Ve} (h : Ve.sm a p = Ve.sm a q) : p = q := by
  simp only [Ve.sm, Ve.mk.injEq] at h
  exact ve_ext (Int.eq_of_mul_eq_mul_left (by omega) h.1) (Int.eq_of_mul_eq_mul_left (by omega) h.2.1) (Int.eq_of_mul_eq_mul_left (by omega) h.2.2)
theorem sm_one (p : Ve) : Ve.sm 1 p = p := by cases p; simp [Ve.sm]
def Prim (p : Ve) : Prop := g3 p.x p.y p.z = 1
theorem prim_eq {p q : Ve} {a b : Int} (ha : 0 < a) (hb : 0 < b) (hp : Prim p) (hq : Prim q) (h : Ve.sm a p = Ve.sm b q) : p = q := by
  have e1 := g3_mul (a := p.x) (b := p.y) (c := p.z) ha
  have e2 := g3_mul (a := q.x) (b := q.y) (c := q.z) hb
  simp only [Ve.sm, Ve.mk.injEq] at h
  unfold Prim at hp hq
  rw [h.1, h.2.1, h.2.2, e2, hp, hq] at e1
  have eab : a = b := by omega
  subst eab
  exact sm_can ha (by simp only [Ve.sm, Ve.mk.injEq]; exact h)
theorem cr_nz_l {p q : Ve} (h : (p.cr q).nz) : p.nz := fun ⟨a, b, c⟩ => h (by simp only [Ve.cr, a, b, c]; simp)
theorem cr_nz_r {p q : Ve} (h : (p.cr q).nz) : q.nz := fun ⟨a, b, c⟩ => h (by simp only [Ve.cr, a, b, c]; simp)
theorem sm_nz {a : Int} (ha : a ≠ 0) {p : Ve} : (Ve.sm a p).nz ↔ p.nz := by
  have key : ∀ x : Int, a * x = 0 ↔ x = 0 := fun x => ⟨fun e => (Int.mul_eq_zero.mp e).resolve_left ha, fun e => by rw [e, Int.mul_zero]⟩
  simp only [Ve.nz, Ve.sm, key]
def Dir (u v : Ve) : Prop := ∃ a b : Int, 0 < a ∧ 0 < b ∧ Ve.sm a u = Ve.sm b v
theorem Dir.refl (u : Ve) : Dir u u := ⟨1, 1, by decide, by decide, rfl⟩
theorem Dir.symm {u v : Ve} (h : Dir u v) : Dir v u := by
  obtain ⟨a, b, ha, hb, e⟩ := h
  exact ⟨b, a, hb, ha, e.symm⟩
theorem Dir.trans {u v w : Ve} (h : Dir u v) (h2 : Dir v w) : Dir u w := by
  obtain ⟨a, b, ha, hb, e⟩ := h
  obtain ⟨c, d, hc, hd, e2⟩ := h2
  refine ⟨c * a, b * d, Int.mul_pos hc ha, Int.mul_pos hb hd, ?_⟩
  rw [← sm_sm, e, sm_sm, Int.mul_comm c b, ← sm_sm, e2, sm_sm]
theorem Dir.prim {u v : Ve} (h : Dir u v) (hu : Prim u) (hv : Prim v) : u = v := by
  obtain ⟨a, b, ha, hb, e⟩ := h
  exact prim_eq ha hb hu hv e
theorem Dir.nz {u v : Ve} (h : Dir u v) (hv : v.nz) : u.nz := by
  obtain ⟨a, b, ha, hb, e⟩ := h
  rw [← sm_nz (show a ≠ 0 by omega), e, sm_nz (by omega)]
  exact hv
theorem Dir.sm (u : Ve) {g : Int} (hg : 0 < g) : Dir (Ve.sm g u) u := ⟨1, g, by decide, hg, sm_one _⟩
def Ve.lst (p : Ve) : Ve := ⟨p.x / g3 p.x p.y p.z, p.y / g3 p.x p.y p.z, p.z / g3 p.x p.y p.z⟩
theorem lst_ok {p : Ve} {n k : Nat} (h : p.nz) (b : p.Bd n) (hn : n < 9000) : F_least [p.D] k = some (p.lst.D, k) := leastB h b hn
theorem lst_spec {p : Ve} (h : p.nz) : ∃ g, 0 < g ∧ p = Ve.sm g p.lst ∧ Prim p.lst := by
  obtain ⟨g, x, y, z, hg, eg, e1, e2, e3, e4, e5, e6, e7⟩ := g3_get h
  have e : p.lst = ⟨x, y, z⟩ := by unfold Ve.lst; rw [e4, e5, e6]
  exact ⟨g, hg, by rw [e]; exact ve_ext e1 e2 e3, by rw [e]; exact e7⟩
theorem lst_bd {p : Ve} {n : Nat} (h : p.nz) (b : p.Bd n) : p.lst.Bd n := by
  obtain ⟨g, hg, e, _⟩ := lst_spec h
  refine T3.of_mul hg ?_
  rw [e] at b
  exact b
theorem lst_dir {p : Ve} (h : p.nz) : Dir p p.lst := by
  obtain ⟨g, hg, e, _⟩ := lst_spec h
  exact ⟨1, g, by decide, hg, (sm_one p).trans e⟩
theorem lst_prim {p : Ve} (h : p.nz) : Prim p.lst := (lst_spec h).choose_spec.2.2
theorem prim_nz {p : Ve} (h : Prim p) : p.nz := fun ⟨a, b, c⟩ => by
  unfold Prim at h
  rw [a, b, c] at h
  revert h; decide
theorem prim_lst {p : Ve} (h : Prim p) : p.lst = p := ((lst_dir (prim_nz h)).symm).prim (lst_prim (prim_nz h)) h
theorem lst_iff {p q : Ve} (hp : p.nz) (hq : q.nz) : p.lst = q.lst ↔ Dir p q :=
  ⟨fun e => (lst_dir hp).trans (by rw [e]; exact (lst_dir hq).symm), fun d => (((lst_dir hp).symm.trans d).trans (lst_dir hq)).prim (lst_prim hp) (lst_prim hq)⟩
-- ### ways 
structure Wy where
  s : Ve
  d : Ve
  deriving DecidableEq
abbrev Wy.D (w : Wy) : D := .tup [w.s.D, w.d.D]
def Wy.at (w : Wy) (n : Int) : Ve := ⟨w.s.x + n * w.d.x, w.s.y + n * w.d.y, w.s.z + n * w.d.z⟩
def Wy.sm (t : Int) (w : Wy) : Wy := ⟨Ve.sm t w.s, Ve.sm t w.d⟩
abbrev Wy.Bd (n : Nat) (w : Wy) : Prop := w.s.Bd n ∧ w.d.Bd n
def Wy.g6 (w : Wy) : Int := ((Int.gcd (Int.gcd (Int.gcd (Int.gcd (Int.gcd (Int.gcd 0 w.s.x) w.s.y) w.s.z) w.d.x) w.d.y) w.d.z : Nat) : Int)
def PrimW (w : Wy) : Prop := w.g6 = 1
theorem g6_sm {t : Int} (ht : 0 < t) (w : Wy) : (w.sm t).g6 = t * w.g6 := by
  have e : ((t.natAbs : Nat) : Int) = t := by omega
  have e0 : Int.gcd 0 (t * w.s.x) = t.natAbs * Int.gcd 0 w.s.x := by simp [Int.natAbs_mul]
  show ((Int.gcd (Int.gcd (Int.gcd (Int.gcd (Int.gcd (Int.gcd 0 (t * w.s.x)) (t * w.s.y)) (t * w.s.z)) (t * w.d.x)) (t * w.d.y)) (t * w.d.z) : Nat) : Int) = _
  rw [e0, Int.natCast_mul, e, Int.gcd_mul_left, Int.natCast_mul, e, Int.gcd_mul_left, Int.natCast_mul, e, Int.gcd_mul_left, Int.natCast_mul, e, Int.gcd_mul_left, Int.natCast_mul, e, Int.gcd_mul_left, Int.natCast_mul, e]
  rfl
theorem wy_can {t : Int} (ht : 0 < t) {w v : Wy} (h : w.sm t = v.sm t) : w = v := by
  cases w; cases v
  simp only [Wy.sm, Wy.mk.injEq] at h ⊢
  exact ⟨sm_can ht h.1, sm_can ht h.2⟩
theorem primW_eq {w v : Wy} {a b : Int} (ha : 0 < a) (hb : 0 < b) (hw : PrimW w) (hv : PrimW v) (h : w.sm a = v.sm b) : w = v := by
  have e1 := g6_sm ha w
  have e2 := g6_sm hb v
  unfold PrimW at hw hv
  rw [h, e2, hw, hv] at e1
  have eab : a = b := by omega
  subst eab
  exact wy_can ha h
def Wy.lowG (w : Wy) : Int := if w.g6 > 1 then w.g6 else 1
def Wy.low (w : Wy) : Wy := ⟨⟨w.s.x / w.lowG, w.s.y / w.lowG, w.s.z / w.lowG⟩, ⟨w.d.x / w.lowG, w.d.y / w.lowG, w.d.z / w.lowG⟩⟩
theorem g6_dvd (w : Wy) : w.g6 ∣ w.s.x ∧ w.g6 ∣ w.s.y ∧ w.g6 ∣ w.s.z ∧ w.g6 ∣ w.d.x ∧ w.g6 ∣ w.d.y ∧ w.g6 ∣ w.d.z := by
  have l : ∀ x y : Int, ((Int.gcd x y : Nat) : Int) ∣ x := fun x y => Int.gcd_dvd_left ..
  have r : ∀ x y : Int, ((Int.gcd x y : Nat) : Int) ∣ y := fun x y => Int.gcd_dvd_right ..
  unfold Wy.g6
  have h5 := l (Int.gcd (Int.gcd (Int.gcd (Int.gcd (Int.gcd 0 w.s.x) w.s.y) w.s.z) w.d.x) w.d.y) w.d.z
  have h4 := Int.dvd_trans h5 (l (Int.gcd (Int.gcd (Int.gcd (Int.gcd 0 w.s.x) w.s.y) w.s.z) w.d.x) w.d.y)
  have h3 := Int.dvd_trans h4 (l (Int.gcd (Int.gcd (Int.gcd 0 w.s.x) w.s.y) w.s.z) w.d.x)
  have h2 := Int.dvd_trans h3 (l (Int.gcd (Int.gcd 0 w.s.x) w.s.y) w.s.z)
  have h1 := Int.dvd_trans h2 (l (Int.gcd 0 w.s.x) w.s.y)
  exact ⟨Int.dvd_trans h1 (r _ _), Int.dvd_trans h2 (r _ _), Int.dvd_trans h3 (r _ _), Int.dvd_trans h4 (r _ _), Int.dvd_trans h5 (r _ _), r _ _⟩
theorem lowG_pos (w : Wy) : 0 < w.lowG := by unfold Wy.lowG; split <;> omega
theorem g6_nn (w : Wy) : 0 ≤ w.g6 := by unfold Wy.g6; omega
theorem lowG_dvd (w : Wy) {x : Int} (h : w.g6 ∣ x) : w.lowG ∣ x := by
  unfold Wy.lowG
  split
  · exact h
  · exact Int.one_dvd x
theorem low_sm (w : Wy) : w = w.low.sm w.lowG := by
  obtain ⟨h1, h2, h3, h4, h5, h6⟩ := g6_dvd w
  have key : ∀ x : Int, w.g6 ∣ x → w.lowG * (x / w.lowG) = x := fun x h => Int.mul_ediv_cancel' (lowG_dvd w h)
  obtain ⟨s, d⟩ := w
  simp only [Wy.low, Wy.sm, Ve.sm, Wy.mk.injEq]
  exact ⟨ve_ext (key _ h1).symm (key _ h2).symm (key _ h3).symm, ve_ext (key _ h4).symm (key _ h5).symm (key _ h6).symm⟩
theorem low_prim {w : Wy} (h : w.g6 ≠ 0) : PrimW w.low := by
  have e := g6_sm (lowG_pos w) w.low
  rw [← low_sm w] at e
  have g0 := g6_nn w
  have eg : w.lowG = w.g6 := by unfold Wy.lowG; split <;> omega
  rw [eg] at e
  have e2 : w.g6 * 1 = w.g6 * w.low.g6 := by rw [Int.mul_one]; exact e
  exact (Int.eq_of_mul_eq_mul_left h e2).symm
theorem low_bd {w : Wy} {n : Nat} (b : w.Bd n) : w.low.Bd n := by
  have e := low_sm w
  rw [e] at b
  exact ⟨T3.of_mul (lowG_pos w) b.1, T3.of_mul (lowG_pos w) b.2⟩
theorem g6_ne {w : Wy} (h : w.s.nz ∨ w.d.nz) : w.g6 ≠ 0 := fun z => by
  obtain ⟨h1, h2, h3, h4, h5, h6⟩ := g6_dvd w
  rw [z] at h1 h2 h3 h4 h5 h6
  rcases h with h | h
  · exact h ⟨Int.zero_dvd.mp h1, Int.zero_dvd.mp h2, Int.zero_dvd.mp h3⟩
  · exact h ⟨Int.zero_dvd.mp h4, Int.zero_dvd.mp h5, Int.zero_dvd.mp h6⟩
theorem at_sm (t n : Int) (w : Wy) : (w.sm t).at n = Ve.sm t (w.at n) := by
  simp only [Wy.at, Wy.sm, Ve.sm, Ve.mk.injEq]; refine ⟨?_, ?_, ?_⟩ <;> grind
theorem at_bd {w : Wy} {n : Nat} {m : Int} (b : w.Bd n) (hm : Sky.Bd 7 m) : (w.at m).Bd (n + 8) :=
  ⟨((b.1.a.mono (by omega)).add (hm.mul b.2.a)).mono (by omega), ((b.1.b.mono (by omega)).add (hm.mul b.2.b)).mono (by omega), ((b.1.c.mono (by omega)).add (hm.mul b.2.c)).mono (by omega)⟩
theorem at_cr (w : Wy) (m n : Int) : (w.at m).cr (w.at n) = Ve.sm (n - m) (w.s.cr w.d) := by
  simp only [Wy.at, Ve.cr, Ve.sm, Ve.mk.injEq]; refine ⟨?_, ?_, ?_⟩ <;> grind
-- ### one after the other in a plane 
def Up (N u v : Ve) : Prop := ∃ e c : Int, 0 < e ∧ 0 < c ∧ Ve.sm e (u.cr v) = Ve.sm c N
theorem cr_sm (a b : Int) (u v : Ve) : (Ve.sm a u).cr (Ve.sm b v) = Ve.sm (a * b) (u.cr v) := by
  simp only [Ve.cr, Ve.sm, Ve.mk.injEq]; refine ⟨?_, ?_, ?_⟩ <;> grind
theorem dot_sm (a b : Int) (u v : Ve) : (Ve.sm a u).dot (Ve.sm b v) = a * b * u.dot v := by simp only [Ve.dot, Ve.sm]; grind
theorem dot_sml (a : Int) (u v : Ve) : (Ve.sm a u).dot v = a * u.dot v := by simp only [Ve.dot, Ve.sm]; grind
theorem Up.dir {N u v u' v' : Ve} (h : Up N u v) (hu : Dir u u') (hv : Dir v v') : Up N u' v' := by
  obtain ⟨e, c, he, hc, h⟩ := h
  obtain ⟨a, b, ha, hb, h1⟩ := hu
  obtain ⟨a', b', ha', hb', h2⟩ := hv
  refine ⟨e * (b * b'), (a * a') * c, Int.mul_pos he (Int.mul_pos hb hb'), Int.mul_pos (Int.mul_pos ha ha') hc, ?_⟩
  rw [← sm_sm, ← cr_sm, ← h1, ← h2, cr_sm, sm_sm, Int.mul_comm e, ← sm_sm, h, sm_sm]
theorem Up.nz {N u v : Ve} (h : Up N u v) (hN : N.nz) : (u.cr v).nz := by
  obtain ⟨e, c, he, hc, h⟩ := h
  rw [← sm_nz (show e ≠ 0 by omega), h, sm_nz (by omega)]
  exact hN
theorem up_at {w : Wy} {m n : Int} (h : m < n) : Up (w.s.cr w.d) (w.at m) (w.at n) := ⟨1, n - m, by decide, by omega, by rw [sm_one, at_cr]⟩
def comb (a b : Int) (u v : Ve) : Ve := ⟨a * u.x + b * v.x, a * u.y + b * v.y, a * u.z + b * v.z⟩
theorem cr_comb (a b : Int) (w u v : Ve) : w.cr (comb a b u v) = comb a b (w.cr u) (w.cr v) := by
  simp only [Ve.cr, comb, Ve.mk.injEq]; refine ⟨?_, ?_, ?_⟩ <;> grind
theorem comb_cr (a b : Int) (w u v : Ve) : (comb a b u v).cr w = comb a b (u.cr w) (v.cr w) := by
  simp only [Ve.cr, comb, Ve.mk.injEq]; refine ⟨?_, ?_, ?_⟩ <;> grind
theorem sm_comb (t a b : Int) (u v : Ve) : Ve.sm t (comb a b u v) = comb (t * a) (t * b) u v := by
  simp only [Ve.sm, comb, Ve.mk.injEq]; refine ⟨?_, ?_, ?_⟩ <;> grind
theorem comb_sm (a b c d : Int) (u v : Ve) : comb a b (Ve.sm c u) (Ve.sm d v) = comb (a * c) (b * d) u v := by
  simp only [Ve.sm, comb, Ve.mk.injEq]; refine ⟨?_, ?_, ?_⟩ <;> grind
theorem comb_one (a b : Int) (u : Ve) : comb a b u u = Ve.sm (a + b) u := by
  simp only [Ve.sm, comb, Ve.mk.injEq]; refine ⟨?_, ?_, ?_⟩ <;> grind
theorem up_sum {N p q : Ve} {a b : Int} (ha : 0 < a) (hb : 0 < b) (h : ∃ e c : Int, 0 < e ∧ 0 < c ∧ Ve.sm e p = Ve.sm c N) (h2 : ∃ e c : Int, 0 < e ∧ 0 < c ∧ Ve.sm e q = Ve.sm c N) : ∃ e c : Int, 0 < e ∧ 0 < c ∧ Ve.sm e (comb a b p q) = Ve.sm c N := by
  obtain ⟨e1, c1, he1, hc1, h⟩ := h
  obtain ⟨e2, c2, he2, hc2, h2⟩ := h2
  refine ⟨e1 * e2, a * e2 * c1 + b * e1 * c2, Int.mul_pos he1 he2, ?_, ?_⟩
  · have := Int.mul_pos (Int.mul_pos ha he2) hc1
    have := Int.mul_pos (Int.mul_pos hb he1) hc2
    omega
  · rw [← comb_one, ← comb_sm (a * e2) (b * e1) c1 c2 N N, ← h, ← h2, comb_sm, sm_comb]
    congr 1 <;> grind
theorem up_sum0 {N p q : Ve} {a b : Int} (hb : 0 < b) (hp : p = ⟨0, 0, 0⟩) (h2 : ∃ e c : Int, 0 < e ∧ 0 < c ∧ Ve.sm e q = Ve.sm c N) : ∃ e c : Int, 0 < e ∧ 0 < c ∧ Ve.sm e (comb a b p q) = Ve.sm c N := by
  obtain ⟨e2, c2, he2, hc2, h2⟩ := h2
  refine ⟨e2, b * c2, he2, Int.mul_pos hb hc2, ?_⟩
  have e : comb a b p q = Ve.sm b q := by rw [hp]; simp only [Ve.sm, comb, Ve.mk.injEq]; refine ⟨?_, ?_, ?_⟩ <;> grind
  rw [e, sm_sm, Int.mul_comm, ← sm_sm, h2, sm_sm]
theorem up_sum1 {N p q : Ve} {a b : Int} (ha : 0 < a) (hq : q = ⟨0, 0, 0⟩) (h2 : ∃ e c : Int, 0 < e ∧ 0 < c ∧ Ve.sm e p = Ve.sm c N) : ∃ e c : Int, 0 < e ∧ 0 < c ∧ Ve.sm e (comb a b p q) = Ve.sm c N := by
  obtain ⟨e2, c2, he2, hc2, h2⟩ := h2
  refine ⟨e2, a * c2, he2, Int.mul_pos ha hc2, ?_⟩
  have e : comb a b p q = Ve.sm a p := by rw [hq]; simp only [Ve.sm, comb, Ve.mk.injEq]; refine ⟨?_, ?_, ?_⟩ <;> grind
  rw [e, sm_sm, Int.mul_comm, ← sm_sm, h2, sm_sm]
theorem cr_self (u : Ve) : u.cr u = ⟨0, 0, 0⟩ := by simp only [Ve.cr, Ve.mk.injEq]; refine ⟨?_, ?_, ?_⟩ <;> grind
theorem Up.comb_r {N w u v : Ve} {a b : Int} (ha : 0 < a) (hb : 0 < b) (h : Up N w u) (h2 : Up N w v) : Up N w (comb a b u v) := by
  unfold Up; rw [cr_comb]; exact up_sum ha hb h h2
theorem Up.comb_r0 {N u v : Ve} {a b : Int} (hb : 0 < b) (h2 : Up N u v) : Up N u (comb a b u v) := by
  unfold Up; rw [cr_comb]; exact up_sum0 hb (cr_self u) h2
theorem Up.comb_l {N w u v : Ve} {a b : Int} (ha : 0 < a) (hb : 0 < b) (h : Up N u w) (h2 : Up N v w) : Up N (comb a b u v) w := by
  unfold Up; rw [comb_cr]; exact up_sum ha hb h h2
theorem Up.comb_l0 {N u v : Ve} {a b : Int} (ha : 0 < a) (h2 : Up N u v) : Up N (comb a b u v) v := by
  unfold Up; rw [comb_cr]; exact up_sum1 ha (cr_self v) h2
def Btw (u v w : Ve) : Prop := (u.cr w).nz ∧ (u.cr w).dot v = 0 ∧ 0 < (u.cr v).dot (u.cr w) ∧ 0 < (v.cr w).dot (u.cr w)
instance (u v w : Ve) : Decidable (Btw u v w) := by unfold Btw; infer_instance
theorem dot_cr_r (u v : Ve) : (u.cr v).dot v = 0 := by simp only [Ve.dot, Ve.cr]; grind
theorem dot_cr_l (u v : Ve) : (u.cr v).dot u = 0 := by simp only [Ve.dot, Ve.cr]; grind
theorem up_dot {N p q : Ve} (hN : N.nz) (h : ∃ e c : Int, 0 < e ∧ 0 < c ∧ Ve.sm e p = Ve.sm c N) (h2 : ∃ e c : Int, 0 < e ∧ 0 < c ∧ Ve.sm e q = Ve.sm c N) : 0 < p.dot q := by
  obtain ⟨e1, c1, he1, hc1, h⟩ := h
  obtain ⟨e2, c2, he2, hc2, h2⟩ := h2
  have d := Ve.dot_pos hN
  have e : e1 * e2 * p.dot q = c1 * c2 * N.dot N := by rw [← dot_sm, h, h2, dot_sm]
  exact Int.pos_of_mul_pos_right (by rw [e]; exact Int.mul_pos (Int.mul_pos hc1 hc2) d) (by have := Int.mul_pos he1 he2; omega)
theorem up_flat {N u v : Ve} (h : Up N u v) : N.dot v = 0 ∧ N.dot u = 0 := by
  obtain ⟨e, c, he, hc, h⟩ := h
  have e1 : c * N.dot v = 0 := by rw [← dot_sml, ← h, dot_sml, dot_cr_r, Int.mul_zero]
  have e2 : c * N.dot u = 0 := by rw [← dot_sml, ← h, dot_sml, dot_cr_l, Int.mul_zero]
  exact ⟨(Int.mul_eq_zero.mp e1).resolve_left (by omega), (Int.mul_eq_zero.mp e2).resolve_left (by omega)⟩
theorem btw_up {N u v w : Ve} (hN : N.nz) (h1 : Up N u v) (h2 : Up N v w) (h3 : Up N u w) : Btw u v w := by
  refine ⟨h3.nz hN, ?_, up_dot hN h1 h3, up_dot hN h2 h3⟩
  have f := (up_flat h1).1
  obtain ⟨e, c, he, hc, h⟩ := h3
  have e1 : e * (u.cr w).dot v = 0 := by rw [← dot_sml, h, dot_sml, f, Int.mul_zero]
  exact (Int.mul_eq_zero.mp e1).resolve_left (by omega)
-- ### the way by three 
def Wy.by (a b : Ve) (m n near far : Int) : Wy := ⟨⟨(n - m) * near * a.x + -m * (far * b.x + -near * a.x), (n - m) * near * a.y + -m * (far * b.y + -near * a.y), (n - m) * near * a.z + -m * (far * b.z + -near * a.z)⟩, ⟨far * b.x + -near * a.x, far * b.y + -near * a.y, far * b.z + -near * a.z⟩⟩
theorem by_near (a b : Ve) (m n near far : Int) : (Wy.by a b m n near far).at m = Ve.sm ((n - m) * near) a := by
  simp only [Wy.by, Wy.at, Ve.sm, Ve.mk.injEq]; refine ⟨?_, ?_, ?_⟩ <;> grind
theorem by_far (a b : Ve) (m n near far : Int) : (Wy.by a b m n near far).at n = Ve.sm ((n - m) * far) b := by
  simp only [Wy.by, Wy.at, Ve.sm, Ve.mk.injEq]; refine ⟨?_, ?_, ?_⟩ <;> grind
theorem by_mid (a b : Ve) (m l n near far : Int) : (Wy.by a b m n near far).at l = comb ((n - l) * near) ((l - m) * far) a b := by
  simp only [Wy.by, Wy.at, comb, Ve.mk.injEq]; refine ⟨?_, ?_, ?_⟩ <;> grind
theorem flat3 (a v b : Ve) (h : (a.cr b).dot v = 0) : comb ((v.cr b).dot (a.cr b)) ((a.cr v).dot (a.cr b)) a b = Ve.sm ((a.cr b).dot (a.cr b)) v := by
  have e : ∀ p q : Int, p = q + (a.cr b).dot v * 0 → p = q := fun p q h => by rw [h]; grind
  have k : comb ((v.cr b).dot (a.cr b)) ((a.cr v).dot (a.cr b)) a b = ⟨(a.cr b).dot (a.cr b) * v.x - (a.cr b).dot v * (a.cr b).x, (a.cr b).dot (a.cr b) * v.y - (a.cr b).dot v * (a.cr b).y, (a.cr b).dot (a.cr b) * v.z - (a.cr b).dot v * (a.cr b).z⟩ := by
    simp only [comb, Ve.dot, Ve.cr, Ve.mk.injEq]; refine ⟨?_, ?_, ?_⟩ <;> grind
  rw [k, h]
  simp only [Ve.sm, Int.zero_mul, Int.sub_zero]
theorem by_three {a v b : Ve} {m l n : Int} (h1 : m < l) (h2 : l < n) (h : Btw a v b) : let w := Wy.by a b m n ((v.cr b).dot (a.cr b) * (l - m)) ((a.cr v).dot (a.cr b) * (n - l));
    Dir (w.at m) a ∧ Dir (w.at l) v ∧ Dir (w.at n) b := by
  obtain ⟨hn, h0, p1, p2⟩ := h
  have d := Ve.dot_pos hn
  refine ⟨?_, ?_, ?_⟩
  · rw [by_near]; exact Dir.sm a (Int.mul_pos (by omega) (Int.mul_pos p2 (by omega)))
  · rw [by_mid]
    have e : comb ((n - l) * ((v.cr b).dot (a.cr b) * (l - m))) ((l - m) * ((a.cr v).dot (a.cr b) * (n - l))) a b = Ve.sm ((n - l) * (l - m) * (a.cr b).dot (a.cr b)) v := by
      rw [← sm_sm, ← flat3 a v b h0, sm_comb]
      congr 1 <;> grind
    rw [e]
    exact Dir.sm v (Int.mul_pos (Int.mul_pos (by omega) (by omega)) d)
  · rw [by_far]; exact Dir.sm b (Int.mul_pos (by omega) (Int.mul_pos p1 (by omega)))
-- ### three sightings tell the way 
theorem indep {u v : Ve} {x y : Int} (h : (u.cr v).nz) (e : comb x y u v = ⟨0, 0, 0⟩) : x = 0 ∧ y = 0 := by
  have e1 : Ve.sm x (u.cr v) = ⟨0, 0, 0⟩ := by
    have : (comb x y u v).cr v = Ve.sm x (u.cr v) := by simp only [comb, Ve.cr, Ve.sm, Ve.mk.injEq]; refine ⟨?_, ?_, ?_⟩ <;> grind
    rw [← this, e]; simp [Ve.cr]
  have e2 : Ve.sm y (u.cr v) = ⟨0, 0, 0⟩ := by
    have : u.cr (comb x y u v) = Ve.sm y (u.cr v) := by simp only [comb, Ve.cr, Ve.sm, Ve.mk.injEq]; refine ⟨?_, ?_, ?_⟩ <;> grind
    rw [← this, e]; simp [Ve.cr]
  constructor
  · rcases Classical.em (x = 0) with z | z
    · exact z
    · exact absurd ((by rw [e1]; exact ⟨rfl, rfl, rfl⟩ : (Ve.sm x (u.cr v)).x = 0 ∧ (Ve.sm x (u.cr v)).y = 0 ∧ (Ve.sm x (u.cr v)).z = 0)) ((sm_nz z).mpr h)
  · rcases Classical.em (y = 0) with z | z
    · exact z
    · exact absurd ((by rw [e2]; exact ⟨rfl, rfl, rfl⟩ : (Ve.sm y (u.cr v)).x = 0 ∧ (Ve.sm y (u.cr v)).y = 0 ∧ (Ve.sm y (u.cr v)).z = 0)) ((sm_nz z).mpr h)
theorem at_mid (w : Wy) (m l n : Int) : comb (n - l) (l - m) (w.at m) (w.at n) = Ve.sm (n - m) (w.at l) := by
  simp only [Wy.at, comb, Ve.sm, Ve.mk.injEq]; refine ⟨?_, ?_, ?_⟩ <;> grind
theorem two_pts {s d s' d' p q m n : Int} (h : m < n) (e1 : p * (s + m * d) = q * (s' + m * d')) (e2 : p * (s + n * d) = q * (s' + n * d')) : p * s = q * s' ∧ p * d = q * d' := by
  have a1 : (n - m) * (p * d) = p * (s + n * d) - p * (s + m * d) := by grind
  have a2 : (n - m) * (q * d') = q * (s' + n * d') - q * (s' + m * d') := by grind
  have e4 : p * d = q * d' := Int.eq_of_mul_eq_mul_left (show n - m ≠ 0 by omega) (by rw [a1, a2, e1, e2])
  refine ⟨?_, e4⟩
  have a3 : p * s = p * (s + m * d) - m * (p * d) := by grind
  have a4 : q * s' = q * (s' + m * d') - m * (q * d') := by grind
  rw [a3, a4, e1, e4]
theorem at_two {w v : Wy} {m n p q : Int} (h : m < n) (h1 : Ve.sm p (w.at m) = Ve.sm q (v.at m)) (h2 : Ve.sm p (w.at n) = Ve.sm q (v.at n)) : w.sm p = v.sm q := by
  simp only [Wy.at, Ve.sm, Ve.mk.injEq] at h1 h2
  have kx := two_pts h h1.1 h2.1
  have ky := two_pts h h1.2.1 h2.2.1
  have kz := two_pts h h1.2.2 h2.2.2
  simp only [Wy.sm, Ve.sm, Wy.mk.injEq, Ve.mk.injEq]
  exact ⟨⟨kx.1, ky.1, kz.1⟩, ⟨kx.2, ky.2, kz.2⟩⟩
theorem uniq_key {am bm al bl an bn m l n x y z x' y' z' : Int} (e1 : am * x = bm * x') (e2 : al * y = bl * y') (e3 : an * z = bn * z') (e4 : (n - l) * x + (l - m) * z = (n - m) * y) (e5 : (n - l) * x' + (l - m) * z' = (n - m) * y') :
    (bm * bn * al * (n - l) - bl * bn * am * (n - l)) * x + (bm * bn * al * (l - m) - bl * bm * an * (l - m)) * z = 0 := by
  have f1 : bm * bn * al * ((n - l) * x + (l - m) * z) = bm * bn * ((n - m) * (al * y)) := by rw [e4]; grind
  have f2 : bl * bn * (n - l) * (am * x) + bl * bm * (l - m) * (an * z) = bm * bn * ((n - m) * (bl * y')) := by
    rw [e1, e3]
    have : bm * bn * ((n - m) * (bl * y')) = bm * bn * bl * ((n - m) * y') := by grind
    rw [this, ← e5]; grind
  rw [e2, ← f2] at f1
  have f3 : (bm * bn * al * (n - l) - bl * bn * am * (n - l)) * x + (bm * bn * al * (l - m) - bl * bm * an * (l - m)) * z = bm * bn * al * ((n - l) * x + (l - m) * z) - (bl * bn * (n - l) * (am * x) + bl * bm * (l - m) * (an * z)) := by grind
  rw [f3, f1, Int.sub_self]
theorem uniq {w v : Wy} {m l n : Int} (h1 : m < l) (h2 : l < n) (hw : PrimW w) (hv : PrimW v) (hn : ((w.at m).cr (w.at n)).nz) (dm : Dir (w.at m) (v.at m)) (dl : Dir (w.at l) (v.at l)) (dn : Dir (w.at n) (v.at n)) : w = v := by
  obtain ⟨am, bm, ham, hbm, em⟩ := dm
  obtain ⟨al, bl, hal, hbl, el⟩ := dl
  obtain ⟨an, bn, han, hbn, en⟩ := dn
  have iw := at_mid w m l n
  have iv := at_mid v m l n
  have c : comb (bm * bn * al * (n - l) - bl * bn * am * (n - l)) (bm * bn * al * (l - m) - bl * bm * an * (l - m)) (w.at m) (w.at n) = ⟨0, 0, 0⟩ := by
    simp only [Ve.sm, comb, Ve.mk.injEq] at em el en iw iv ⊢
    exact ⟨uniq_key em.1 el.1 en.1 iw.1 iv.1, uniq_key em.2.1 el.2.1 en.2.1 iw.2.1 iv.2.1, uniq_key em.2.2 el.2.2 en.2.2 iw.2.2 iv.2.2⟩
  obtain ⟨c1, c2⟩ := indep hn c
  have d1 : bm * al = bl * am := by
    have : bn * (n - l) * (bm * al) = bn * (n - l) * (bl * am) := by clear em el en iw iv c c2; grind
    exact Int.eq_of_mul_eq_mul_left (Int.ne_of_gt (Int.mul_pos hbn (by omega))) this
  have d2 : bn * al = bl * an := by
    have : bm * (l - m) * (bn * al) = bm * (l - m) * (bl * an) := by clear em el en iw iv c c1 d1; grind
    exact Int.eq_of_mul_eq_mul_left (Int.ne_of_gt (Int.mul_pos hbm (by omega))) this
  refine primW_eq hal hbl hw hv (at_two (m := m) (n := n) (by omega) ?_ ?_)
  · refine sm_can hbm ?_
    rw [sm_sm, d1, ← sm_sm, em, sm_sm, sm_sm, Int.mul_comm]
  · refine sm_can hbn ?_
    rw [sm_sm, d2, ← sm_sm, en, sm_sm, sm_sm, Int.mul_comm]
end Sky

end
section
namespace Sky
open PySem PySem.Spec PyProof.Rows L2
theorem for_nx {t : Tg} {b : SemS} {d : D} {ds : List D} {ρ ρ1 ρ2 : Env} {k k1 : Nat} {r : Option (Out × Nat)} (hp : t.put d ρ = some ρ1) (hb : b ρ1 k = some (.nx ρ2, k1)) (hr : forLoop t b ds ρ2 k1 = r) : forLoop t b (d :: ds) ρ k = r := by
  unfold forLoop
  rw [hp]
  simp only [M.bind, hb]
  exact hr
theorem for_ret {t : Tg} {b : SemS} {d x : D} {ds : List D} {ρ ρ1 : Env} {k k1 : Nat} (hp : t.put d ρ = some ρ1) (hb : b ρ1 k = some (.ret x, k1)) : forLoop t b (d :: ds) ρ k = some (.ret x, k1) := by
  unfold forLoop
  rw [hp]
  simp only [M.bind, hb, M.pure]
theorem plus_ok {p q : Ve} {k : Nat} : F_plus [p.D, q.D] k = some ((p.add q).D, k) := by
  simp [↓runB, ↓runI, ↓startE, ↓startI, ↓sSeq, ↓sRet, ↓sRetN, ↓sIf, ↓sAsg, ↓sDrop, ↓sFail, ↓sNext, ↓sPar2, ↓sPar3, ↓sFor, ↓forLoop, ↓sMe, ↓M.bind, ↓M.pure, ↓M.lift, ↓M.fail, ↓dBi, ↓dLc, ↓lcLoop, ↓dZip, ↓zipD, ↓pairD, ↓dEnumA, ↓enumD, ↓rangeD, ↓dRng, ↓dItems, ↓dCons, ↓dNil, ↓dBin, ↓dBinB, ↓dTup, ↓dLst, ↓dUn, ↓dIf, ↓dAndB, ↓dOrB, ↓dAndV, ↓dOrV, ↓dNotV, ↓D.tru, ↓dNotB, ↓dVal, ↓dIsi, ↓dIsiT, ↓dFld, ↓dCall, ↓dMake, ↓dEq, ↓dEqB, ↓dEqD, ↓dV, ↓dVR, ↓dC, ↓dTrue, ↓dTru, ↓tgTup, ↓tgsCons, ↓tgName, ↓tgsNil, ↓wipeE, ↓bSum, ↓bLen, ↓bAbs, ↓bTup, ↓bLst, ↓bAll, ↓bAny, ↓intsD, ↓boolsD, ↓D.add, ↓D.sub, ↓D.neg, ↓D.ix, ↓atI, ↓ixN, ↓D.mod, ↓D.kl, ↓Kl.sub, ↓Kl.subs, ↓Cn.fields, ↓cLt, ↓cLe, ↓cGe, ↓cGtA, ↓cIs, ↓cIsNot, ↓D.isNon, ↓D.items, ↓rng, ↓okR, ↓lim, ↓eq0, ↓dMeth, ↓dGet1, ↓keyD, ↓sFrz, ↓sOwn, ↓sApp, ↓dDrw0, ↓dDrw1, ↓sInc, ↓dLenS, ↓dIxS, ↓dNeS, ↓dPow, ↓bInt, ↓eqT, F_plus, S_plus, Ve.add]
theorem times_ok {t : Int} {p : Ve} {n m k : Nat} (ht : Sky.Bd m t) (h : p.Bd n) (hn : m + n < 1000000) : F_times [.int t, p.D] k = some ((Ve.sm t p).D, k) := by
  simp [↓runB, ↓runI, ↓startE, ↓startI, ↓sSeq, ↓sRet, ↓sRetN, ↓sIf, ↓sAsg, ↓sDrop, ↓sFail, ↓sNext, ↓sPar2, ↓sPar3, ↓sFor, ↓forLoop, ↓sMe, ↓M.bind, ↓M.pure, ↓M.lift, ↓M.fail, ↓dBi, ↓dLc, ↓lcLoop, ↓dZip, ↓zipD, ↓pairD, ↓dEnumA, ↓enumD, ↓rangeD, ↓dRng, ↓dItems, ↓dCons, ↓dNil, ↓dBin, ↓dBinB, ↓dTup, ↓dLst, ↓dUn, ↓dIf, ↓dAndB, ↓dOrB, ↓dAndV, ↓dOrV, ↓dNotV, ↓D.tru, ↓dNotB, ↓dVal, ↓dIsi, ↓dIsiT, ↓dFld, ↓dCall, ↓dMake, ↓dEq, ↓dEqB, ↓dEqD, ↓dV, ↓dVR, ↓dC, ↓dTrue, ↓dTru, ↓tgTup, ↓tgsCons, ↓tgName, ↓tgsNil, ↓wipeE, ↓bSum, ↓bLen, ↓bAbs, ↓bTup, ↓bLst, ↓bAll, ↓bAny, ↓intsD, ↓boolsD, ↓D.add, ↓D.sub, ↓D.neg, ↓D.ix, ↓atI, ↓ixN, ↓D.mod, ↓D.kl, ↓Kl.sub, ↓Kl.subs, ↓Cn.fields, ↓cLt, ↓cLe, ↓cGe, ↓cGtA, ↓cIs, ↓cIsNot, ↓D.isNon, ↓D.items, ↓rng, ↓okR, ↓lim, ↓eq0, ↓dMeth, ↓dGet1, ↓keyD, ↓sFrz, ↓sOwn, ↓sApp, ↓dDrw0, ↓dDrw1, ↓sInc, ↓dLenS, ↓dIxS, ↓dNeS, ↓dPow, ↓bInt, ↓eqT, F_times, S_times, mul_bd ht h.a hn, mul_bd ht h.b hn, mul_bd ht h.c hn, Ve.sm]
theorem is_way_ok {w : Wy} {k : Nat} : F_is_way [w.D] k = some (.bl true, k) := rfl
theorem check_way_ok {w : Wy} {k : Nat} : F_check_way [w.D] k = some (.non, k) := rfl
theorem num_ok {i lo hi : Int} {k : Nat} (h1 : lo ≤ i) (h2 : i ≤ hi) : F_is_number [.int i, .int lo, .int hi] k = some (.bl true, k) := by
  simp [↓runB, ↓runI, ↓startE, ↓startI, ↓sSeq, ↓sRet, ↓sRetN, ↓sIf, ↓sAsg, ↓sDrop, ↓sFail, ↓sNext, ↓sPar2, ↓sPar3, ↓sFor, ↓forLoop, ↓sMe, ↓M.bind, ↓M.pure, ↓M.lift, ↓M.fail, ↓dBi, ↓dLc, ↓lcLoop, ↓dZip, ↓zipD, ↓pairD, ↓dEnumA, ↓enumD, ↓rangeD, ↓dRng, ↓dItems, ↓dCons, ↓dNil, ↓dBin, ↓dBinB, ↓dTup, ↓dLst, ↓dUn, ↓dIf, ↓dAndB, ↓dOrB, ↓dAndV, ↓dOrV, ↓dNotV, ↓D.tru, ↓dNotB, ↓dVal, ↓dIsi, ↓dIsiT, ↓dFld, ↓dCall, ↓dMake, ↓dEq, ↓dEqB, ↓dEqD, ↓dV, ↓dVR, ↓dC, ↓dTrue, ↓dTru, ↓tgTup, ↓tgsCons, ↓tgName, ↓tgsNil, ↓wipeE, ↓bSum, ↓bLen, ↓bAbs, ↓bTup, ↓bLst, ↓bAll, ↓bAny, ↓intsD, ↓boolsD, ↓D.add, ↓D.sub, ↓D.neg, ↓D.ix, ↓atI, ↓ixN, ↓D.mod, ↓D.kl, ↓Kl.sub, ↓Kl.subs, ↓Cn.fields, ↓cLt, ↓cLe, ↓cGe, ↓cGtA, ↓cIs, ↓cIsNot, ↓D.isNon, ↓D.items, ↓rng, ↓okR, ↓lim, ↓eq0, ↓dMeth, ↓dGet1, ↓keyD, ↓sFrz, ↓sOwn, ↓sApp, ↓dDrw0, ↓dDrw1, ↓sInc, ↓dLenS, ↓dIxS, ↓dNeS, ↓dPow, ↓bInt, ↓eqT, F_is_number, S_is_number, dChain, h1, h2]
theorem c4_ok {F : Fn} {f1 f2 f3 f4 : Sem} {ρ : Env} {k k' : Nat} {d1 d2 d3 d4 r : D} (h1 : f1 ρ k = some (d1, k)) (h2 : f2 ρ k = some (d2, k)) (h3 : f3 ρ k = some (d3, k)) (h4 : f4 ρ k = some (d4, k)) (h : F [d1, d2, d3, d4] k = some (r, k')) :
    dCall 4 F (dCons f1 (dCons f2 (dCons f3 (dCons f4 dNil)))) ρ k = some (r, k') := by
  simp only [dCall, dCons, dNil, M.bind, M.pure, h1, h2, h3, h4, List.length_cons, List.length_nil, Nat.beq, Nat.zero_add, Nat.reduceAdd, h]
theorem c3_ok {F : Fn} {f1 f2 f3 : Sem} {ρ : Env} {k k1 k2 k3 k' : Nat} {d1 d2 d3 r : D} (h1 : f1 ρ k = some (d1, k1)) (h2 : f2 ρ k1 = some (d2, k2)) (h3 : f3 ρ k2 = some (d3, k3)) (h : F [d1, d2, d3] k3 = some (r, k')) :
    dCall 3 F (dCons f1 (dCons f2 (dCons f3 dNil))) ρ k = some (r, k') := by
  simp only [dCall, dCons, dNil, M.bind, M.pure, h1, h2, h3, List.length_cons, List.length_nil, Nat.beq, Nat.zero_add, Nat.reduceAdd, h]
theorem night_bd {n : Int} (h0 : 0 ≤ n) (h1 : n ≤ 99) : Sky.Bd 7 n := bd_of 99 (by omega) (by decide)
theorem at_add (w : Wy) (n : Int) : w.s.add (Ve.sm n w.d) = w.at n := rfl
theorem at_night_ok {w : Wy} {n : Int} {b k : Nat} (hb : w.Bd b) (h0 : 0 ≤ n) (h1 : n ≤ 99) (hn : b < 5000) : F_at_night [w.D, .int n] k = some ((w.at n).D, k) := by
  refine runB_ret ?_
  show S_at_night [.val w.D, .val (.int n)] k = _
  unfold S_at_night
  rw [seq_nx (drop_ok (c1_ok rfl check_way_ok)), seq_nx (drop_ok (c4_ok rfl rfl rfl rfl (check_num h0 h1)))]
  refine seq_ret (ret_ok ?_)
  rw [← at_add]
  exact c2_ok (bin_ok rfl rfl rfl) (c2_ok rfl (bin_ok rfl rfl rfl) (times_ok (night_bd h0 h1) hb.2 (by omega))) plus_ok
theorem eq_ve0 {f : Sem} {ρ : Env} {k k1 : Nat} {p : Ve} (h : f ρ k = some (p.D, k1)) : dEqB eqT false f (dTup (dCons (dC (.int 0)) (dCons (dC (.int 0)) (dCons (dC (.int 0)) (dNil))))) ρ k = some (decide (p.x = 0 ∧ p.y = 0 ∧ p.z = 0), k1) := by
  have := eqB_ok (neg := false) (g := dTup (dCons (dC (.int 0)) (dCons (dC (.int 0)) (dCons (dC (.int 0)) (dNil))))) (e := (⟨0, 0, 0⟩ : Ve).D) (k2 := k1) (fun _ _ z => by cases z) h rfl (eq_v3 (a := p.x) (b := p.y) (c := p.z) (x := 0) (y := 0) (z := 0))
  rw [this, Bool.false_xor]
theorem seen_ok {w : Wy} {n : Int} {b k : Nat} (hb : w.Bd b) (h0 : 0 ≤ n) (h1 : n ≤ 99) (hn : b < 5000) (nz : (w.at n).nz) : F_seen [w.D, .int n] k = some ((w.at n).lst.D, k) := by
  refine runB_ret ?_
  show S_seen [.val w.D, .val (.int n), .no] k = _
  unfold S_seen
  have e : sAsg (dCall 2 F_at_night (dCons (dV 0) (dCons (dV 1) (dNil)))) (tgName 2) [.val w.D, .val (.int n), .no] k = some (.nx [.val w.D, .val (.int n), .val (w.at n).D], k) := asg_ok (c2_ok rfl rfl (at_night_ok hb h0 h1 hn))
  rw [seq_nx (drop_ok (c1_ok rfl check_way_ok)), seq_nx (drop_ok (c4_ok rfl rfl rfl rfl (check_num h0 h1))), seq_nx e]
  have t := eq_ve0 (f := dV 2) (ρ := [.val w.D, .val (.int n), .val (w.at n).D]) (k := k) (k1 := k) (p := w.at n) rfl
  rw [decide_eq_false nz] at t
  refine seq_ret (ret_ok ?_)
  rw [if_f t]
  exact c1_ok rfl (lst_ok nz (at_bd hb (night_bd h0 h1)) (by omega))
-- ### sightings 
structure Rw where
  n : Int
  p : Ve
  deriving DecidableEq
abbrev Rw.D (r : Rw) : D := .tup [.int r.n, r.p.D]
structure Rw.Ok (r : Rw) : Prop where
  l : 0 ≤ r.n
  h : r.n ≤ 99
  p : Prim r.p
  b : r.p.Bd 10
def Ord : Int → List Rw → Prop
  | _, [] => True
  | last, r :: rs => last + 1 ≤ r.n ∧ r.Ok ∧ Ord r.n rs
theorem direction_ok {p : Ve} {k : Nat} (h : Prim p) (b : p.Bd 10) : F_is_direction [p.D] k = some (.bl true, k) := by
  have nz := prim_nz h
  have n1 : ∀ x : Int, Sky.Bd 10 x → -999999 ≤ x ∧ x ≤ 999999 := fun x hx => by
    have : x.natAbs < 1024 := hx
    omega
  have m1 := num_ok (k := k) (n1 _ b.a).1 (n1 _ b.a).2
  have m2 := num_ok (k := k) (n1 _ b.b).1 (n1 _ b.b).2
  have m3 := num_ok (k := k) (n1 _ b.c).1 (n1 _ b.c).2
  have t := is_triple_spec (a := p.x) (b := p.y) (c := p.z) (k := k)
  rw [decide_eq_false nz] at t
  have tr : F_is_triple [p.D] k = some (.bl true, k) := t
  refine runB_ret ?_
  show S_is_direction [.val p.D, .no] k = _
  unfold S_is_direction
  refine seq_ret (ret_ok ?_)
  have e1 : dCall 1 F_is_triple (dCons (dV 0) (dNil)) [.val p.D, .no] k = some (.bl true, k) := c1_ok rfl tr
  have st : ∀ x : Int, F_is_number [.int x, .int (-999999), .int 999999] k = some (.bl true, k) → dCall 3 F_is_number (dCons (dV 1) (dCons (dUn D.neg (dC (.int 999999))) (dCons (dC (.int 999999)) (dNil)))) ([.val p.D, .no].set 1 (.val (.int x))) k = some (.bl true, k) := fun x h => c3_ok rfl rfl rfl h
  have e2 : dBi bAll (dCons (dLc [1] (dItems (dV 0)) (tgName 1) (dTrue) (dCall 3 F_is_number (dCons (dV 1) (dCons (dUn D.neg (dC (.int 999999))) (dCons (dC (.int 999999)) (dNil)))))) (dNil)) [.val p.D, .no] k = some (.bl true, k) :=
    bi_ok (cons1_ok (lc_ok (items_ok rfl rfl) (lc_put (st _ m1) (lc_put (st _ m2) (lc_put (st _ m3) lc_nil))) rfl)) rfl
  simp only [dAndV, M.bind, e1, D.tru, M.lift, e2]
abbrev csB : SemS := (sSeq (sIf (dOrB (dNotB (dTru (dIsi .tuple (dV 3)))) (dOrB (dEqB eqT true (dBi bLen (dCons (dV 3) (dNil))) (dC (.int 2))) (dNotB (dTru (dCall 3 F_is_number (dCons (dBin D.ix (dV 3) (dC (.int 0))) (dCons (dBin D.add (dV 1) (dC (.int 1))) (dCons (dC (.int 99)) (dNil))))))))) (sFail) (sNext)) (sSeq (sIf (dNotB (dTru (dCall 1 F_is_direction (dCons (dBin D.ix (dV 3) (dC (.int 1))) (dNil))))) (sFail) (sNext)) (sSeq (sAsg (dBin D.ix (dV 3) (dC (.int 0))) (tgName 1)) (sNext))))
theorem cs_step {r : Rw} {last : Int} {d e : D} {k : Nat} (hl : last + 1 ≤ r.n) (h : r.Ok) : csB [.val d, .val (.int last), .val e, .val r.D] k = some (.nx [.val d, .val (.int r.n), .val e, .val r.D], k) := by
  unfold csB
  have a2 : dEqB eqT true (dBi bLen (dCons (dV 3) (dNil))) (dC (.int 2)) [.val d, .val (.int last), .val e, .val r.D] k = some (false, k) := ne_int (i := 2) rfl rfl
  have a3 : dCall 3 F_is_number (dCons (dBin D.ix (dV 3) (dC (.int 0))) (dCons (dBin D.add (dV 1) (dC (.int 1))) (dCons (dC (.int 99)) (dNil)))) [.val d, .val (.int last), .val e, .val r.D] k = some (.bl true, k) := c3_ok (bin_ok rfl rfl rfl) (bin_ok rfl rfl rfl) rfl (num_ok hl h.h)
  have a4 : dCall 1 F_is_direction (dCons (dBin D.ix (dV 3) (dC (.int 1))) (dNil)) [.val d, .val (.int last), .val e, .val r.D] k = some (.bl true, k) := c1_ok (bin_ok rfl rfl rfl) (direction_ok h.p h.b)
  have s1 := sif_f (f := sFail) (g := sNext) (or_f (f := dNotB (dTru (dIsi .tuple (dV 3)))) (k1 := k) rfl (or_f a2 (not_ok (tru_ok a3))))
  have s2 := sif_f (f := sFail) (g := sNext) (not_ok (tru_ok a4))
  rw [seq_nx (s1.trans rfl), seq_nx (s2.trans rfl)]
  rfl
theorem cs_loop {d : D} {k : Nat} : ∀ (rows : List Rw) (is : List D) (last : Int) (s2 s3 : Slot), Ord last rows → is.length = rows.length → ∃ ρ', forLoop (tgTup 2 (tgsCons (tgName 2) (tgsCons (tgName 3) (tgsNil)))) csB (List.zipWith pairD is (rows.map Rw.D)) [.val d, .val (.int last), s2, s3] k = some (.nx ρ', k)
  | [], is, last, s2, s3, _, hl => by
    cases is with
    | nil => exact ⟨_, rfl⟩
    | cons _ _ => cases hl
  | r :: rs, is, last, s2, s3, ho, hl => by
    cases is with
    | nil => cases hl
    | cons e is =>
      obtain ⟨ρ', h⟩ := cs_loop rs is r.n (.val e) (.val r.D) ho.2.2 (by simpa using hl)
      exact ⟨ρ', for_nx (ρ1 := [.val d, .val (.int last), .val e, .val r.D]) rfl (cs_step (d := d) (e := e) (k := k) ho.1 ho.2.1) h⟩
theorem check_sightings_ok {rows : List Rw} {k : Nat} (h0 : rows ≠ []) (h : Ord (-1) rows) : F_check_sightings [.lst (rows.map Rw.D)] k = some (.non, k) := by
  have hlen : ((rows.map Rw.D).length : Int) ≠ 0 := by
    cases rows with
    | nil => exact absurd rfl h0
    | cons _ _ => rw [List.map_cons, List.length_cons]; omega
  obtain ⟨ρ', e⟩ := cs_loop (d := .lst (rows.map Rw.D)) (k := k) rows (rangeD 0 (rows.map Rw.D).length) (-1) .no .no h (by unfold rangeD; rw [List.length_map, List.length_range, List.length_map])
  have b : S_check_sightings (startE 4 [.lst (rows.map Rw.D)]) k = some (.nx ρ', k) := by
    show S_check_sightings [.val (.lst (rows.map Rw.D)), .no, .no, .no] k = _
    unfold S_check_sightings
    have t1 : dCall 1 F_is_row (dCons (dV 0) (dNil)) [.val (.lst (rows.map Rw.D)), .no, .no, .no] k = some (.bl true, k) := c1_ok rfl is_row_lst
    have t2 := eqB_ok (neg := false) (f := dBi bLen (dCons (dV 0) (dNil))) (g := dC (.int 0)) (ρ := [.val (.lst (rows.map Rw.D)), .no, .no, .no]) (k := k) (k1 := k) (k2 := k) (d := .int (rows.map Rw.D).length) (e := .int 0) (fun _ _ z => by cases z) (bi_ok (cons1_ok rfl) rfl) rfl eq_int
    rw [decide_eq_false hlen] at t2
    have s1 := sif_f (f := sFail) (g := sNext) (or_f (not_ok (tru_ok t1)) t2)
    rw [seq_nx (s1.trans rfl), seq_nx (ρ' := [.val (.lst (rows.map Rw.D)), .val (.int (-1)), .no, .no]) (k' := k) rfl]
    rw [seq_nx (ρ' := ρ') (k' := k) ((for_ok (k' := k) (ds := enumD (rows.map Rw.D)) rfl).trans e)]
    rfl
  show runB 4 S_check_sightings [.lst (rows.map Rw.D)] k = _
  simp only [runB, b]
end Sky

end
section
namespace Sky
open PySem PySem.Spec PyProof.Rows L2
-- ### is_seen 
def rowB (w : Wy) (r : Rw) : Bool := decide (w.at r.n).nz && decide ((w.at r.n).lst = r.p)
def seenB (w : Wy) (rows : List Rw) (m n : Int) : Bool := rows.all (rowB w) && (decide ((w.at m).cr (w.at n)).nz || decide (0 < (w.at m).dot (w.at n)))
abbrev isB : SemS := (sSeq (sAsg (dCall 2 F_at_night (dCons (dV 0) (dCons (dV 2) (dNil)))) (tgName 4)) (sSeq (sIf (dOrB (dEqB eqT false (dV 4) (dTup (dCons (dC (.int 0)) (dCons (dC (.int 0)) (dCons (dC (.int 0)) (dNil)))))) (dEqB eqT true (dCall 1 F_least (dCons (dV 4) (dNil))) (dCall 1 F_least (dCons (dV 3) (dNil))))) (sSeq (sRet (dC (.bl false))) (sNext)) (sNext)) (sNext)))
theorem eqB_ve {f g : Sem} {neg : Bool} {ρ : Env} {k k1 k2 : Nat} {p q : Ve} (h : f ρ k = some (p.D, k1)) (h1 : g ρ k1 = some (q.D, k2)) : dEqB eqT neg f g ρ k = some (xor neg (decide (p = q)), k2) := eqB_ok (fun _ _ z => by cases z) h h1 (eq_ve p q)
theorem is_step {w : Wy} {r : Rw} {b k : Nat} {d : D} {s4 s5 s6 : Slot} (hb : w.Bd b) (hn : b < 5000) (h : r.Ok) :
    isB [.val w.D, .val d, .val (.int r.n), .val r.p.D, s4, s5, s6] k = if rowB w r then some (.nx [.val w.D, .val d, .val (.int r.n), .val r.p.D, .val (w.at r.n).D, s5, s6], k) else some (.ret (.bl false), k) := by
  unfold isB
  have e1 : sAsg (dCall 2 F_at_night (dCons (dV 0) (dCons (dV 2) (dNil)))) (tgName 4) [.val w.D, .val d, .val (.int r.n), .val r.p.D, s4, s5, s6] k = some (.nx [.val w.D, .val d, .val (.int r.n), .val r.p.D, .val (w.at r.n).D, s5, s6], k) := asg_ok (c2_ok rfl rfl (at_night_ok hb h.l h.h hn))
  rw [seq_nx e1]
  have t1 := eq_ve0 (f := dV 4) (ρ := [.val w.D, .val d, .val (.int r.n), .val r.p.D, .val (w.at r.n).D, s5, s6]) (k := k) (k1 := k) (p := w.at r.n) rfl
  unfold rowB
  by_cases z : (w.at r.n).nz
  · rw [decide_eq_false z] at t1
    have l1 := lst_ok (k := k) z (at_bd hb (night_bd h.l h.h)) (by omega)
    have l2 := lst_ok (k := k) (prim_nz h.p) h.b (by decide)
    rw [prim_lst h.p] at l2
    have t2 := eqB_ve (neg := true) (f := dCall 1 F_least (dCons (dV 4) (dNil))) (g := dCall 1 F_least (dCons (dV 3) (dNil))) (ρ := [.val w.D, .val d, .val (.int r.n), .val r.p.D, .val (w.at r.n).D, s5, s6]) (k := k) (c1_ok rfl l1) (c1_ok rfl l2)
    rw [decide_eq_true z, Bool.true_and]
    by_cases q : (w.at r.n).lst = r.p
    · rw [decide_eq_true q] at t2 ⊢
      rw [seq_nx ((sif_f (or_f t1 t2)).trans rfl)]
      rfl
    · rw [decide_eq_false q] at t2 ⊢
      rw [seq_ret ((sif_t (or_f t1 t2)).trans rfl)]
      rfl
  · rw [decide_eq_true (Classical.not_not.mp z)] at t1
    rw [decide_eq_false z, Bool.false_and]
    rw [seq_ret ((sif_t (or_t t1)).trans rfl)]
    rfl
theorem is_loop {w : Wy} {b k : Nat} {d : D} (hb : w.Bd b) (hn : b < 5000) : ∀ (rows : List Rw) (s2 s3 s4 s5 s6 : Slot), (∀ r ∈ rows, r.Ok) →
    (rows.all (rowB w) = true → ∃ x2 x3 x4, forLoop (tgTup 2 (tgsCons (tgName 2) (tgsCons (tgName 3) (tgsNil)))) isB (rows.map Rw.D) [.val w.D, .val d, s2, s3, s4, s5, s6] k = some (.nx [.val w.D, .val d, x2, x3, x4, s5, s6], k)) ∧
    (rows.all (rowB w) = false → forLoop (tgTup 2 (tgsCons (tgName 2) (tgsCons (tgName 3) (tgsNil)))) isB (rows.map Rw.D) [.val w.D, .val d, s2, s3, s4, s5, s6] k = some (.ret (.bl false), k))
  | [], s2, s3, s4, s5, s6, _ => ⟨fun _ => ⟨s2, s3, s4, rfl⟩, fun h => (by cases h)⟩
  | r :: rs, s2, s3, s4, s5, s6, ho => by
    have st := is_step (w := w) (r := r) (k := k) (d := d) (s4 := s4) (s5 := s5) (s6 := s6) hb hn (ho r List.mem_cons_self)
    have ih := is_loop (w := w) (k := k) (d := d) hb hn rs (.val (.int r.n)) (.val r.p.D) (.val (w.at r.n).D) s5 s6 (fun x hx => ho x (List.mem_cons_of_mem _ hx))
    rw [List.all_cons, List.map_cons]
    cases hr : rowB w r with
    | true =>
      rw [hr, if_pos rfl] at st
      rw [Bool.true_and]
      refine ⟨fun h => ?_, fun h => ?_⟩
      · obtain ⟨a, b, c, e⟩ := ih.1 h
        exact ⟨a, b, c, for_nx (ρ1 := [.val w.D, .val d, .val (.int r.n), .val r.p.D, s4, s5, s6]) rfl st e⟩
      · exact for_nx (ρ1 := [.val w.D, .val d, .val (.int r.n), .val r.p.D, s4, s5, s6]) rfl st (ih.2 h)
    | false =>
      rw [hr] at st
      rw [Bool.false_and]
      exact ⟨fun h => (by cases h), fun _ => for_ret (ρ1 := [.val w.D, .val d, .val (.int r.n), .val r.p.D, s4, s5, s6]) rfl (st.trans rfl)⟩
theorem is_seen_ok {w : Wy} {rows : List Rw} {x y : Rw} {b k : Nat} (hb : w.Bd b) (hn : b < 2000) (h0 : rows ≠ []) (ho : Ord (-1) rows) (hr : ∀ r ∈ rows, r.Ok) (hx : D.ix (.lst (rows.map Rw.D)) (.int 0) = some x.D) (hy : D.ix (.lst (rows.map Rw.D)) (.int (-1)) = some y.D) (ox : x.Ok) (oy : y.Ok) :
    F_is_seen [w.D, .lst (rows.map Rw.D)] k = some (.bl (seenB w rows x.n y.n), k) := by
  refine runB_ret ?_
  show S_is_seen [.val w.D, .val (.lst (rows.map Rw.D)), .no, .no, .no, .no, .no] k = _
  unfold S_is_seen
  rw [seq_nx (drop_ok (c1_ok rfl check_way_ok)), seq_nx (drop_ok (c1_ok rfl (check_sightings_ok h0 ho)))]
  have lp := is_loop (w := w) (k := k) (d := .lst (rows.map Rw.D)) hb (by omega) rows .no .no .no .no .no hr
  unfold seenB
  cases ha : rows.all (rowB w) with
  | false =>
    rw [Bool.false_and]
    exact seq_ret ((for_ok (k' := k) (ds := rows.map Rw.D) rfl).trans (lp.2 ha))
  | true =>
    rw [Bool.true_and]
    obtain ⟨s2, s3, s4, e⟩ := lp.1 ha
    rw [seq_nx (f := sFor (dItems (dV 1)) (tgTup 2 (tgsCons (tgName 2) (tgsCons (tgName 3) (tgsNil)))) isB) ((for_ok (k' := k) (ds := rows.map Rw.D) rfl).trans e)]
    have a1 := at_night_ok (k := k) hb ox.l ox.h (by omega)
    have a2 := at_night_ok (k := k) hb oy.l oy.h (by omega)
    have p : sPar2 5 6 (dCall 2 F_at_night (dCons (dV 0) (dCons (dBin D.ix (dBin D.ix (dV 1) (dC (.int 0))) (dC (.int 0))) (dNil)))) (dCall 2 F_at_night (dCons (dV 0) (dCons (dBin D.ix (dBin D.ix (dV 1) (dUn D.neg (dC (.int 1)))) (dC (.int 0))) (dNil)))) [.val w.D, .val (.lst (rows.map Rw.D)), s2, s3, s4, .no, .no] k =
        some (.nx [.val w.D, .val (.lst (rows.map Rw.D)), s2, s3, s4, .val (w.at x.n).D, .val (w.at y.n).D], k) :=
      par2_ok (c2_ok rfl (bin_ok (bin_ok rfl rfl hx) rfl rfl) a1) (c2_ok rfl (bin_ok (bin_ok rfl rfl hy) rfl rfl) a2)
    rw [seq_nx p]
    refine seq_ret (ret_ok ?_)
    have b1 := at_bd hb (night_bd ox.l ox.h)
    have b2 := at_bd hb (night_bd oy.l oy.h)
    have li : F_is_on_line [(w.at x.n).D, (w.at y.n).D] k = some (.bl (decide (((w.at x.n).cr (w.at y.n)).x = 0 ∧ ((w.at x.n).cr (w.at y.n)).y = 0 ∧ ((w.at x.n).cr (w.at y.n)).z = 0)), k) := lineB (k := k) b1 b2 (by omega)
    have l2 : dNotV (dCall 2 F_is_on_line (dCons (dV 5) (dCons (dV 6) (dNil)))) [.val w.D, .val (.lst (rows.map Rw.D)), s2, s3, s4, .val (w.at x.n).D, .val (w.at y.n).D] k = _ := notV_ok (c2_ok rfl rfl li)
    have d := ve_dot (k := k) b1 b2 (by omega)
    have d2 : dBin (fun x y => (cGtA x y).map D.bl) (dCall 2 F_dot (dCons (dV 5) (dCons (dV 6) (dNil)))) (dC (.int 0)) [.val w.D, .val (.lst (rows.map Rw.D)), s2, s3, s4, .val (w.at x.n).D, .val (w.at y.n).D] k = some (.bl (decide (0 < (w.at x.n).dot (w.at y.n))), k) := bin_ok (c2_ok rfl rfl d) rfl rfl
    by_cases z : ((w.at x.n).cr (w.at y.n)).nz
    · rw [decide_eq_false z] at l2
      rw [decide_eq_true z, Bool.true_or]
      simp only [dOrV, M.bind, l2, D.tru, M.lift, M.pure, Bool.not_false]
    · rw [decide_eq_true (Classical.not_not.mp z)] at l2
      rw [decide_eq_false z, Bool.false_or]
      simp only [dOrV, M.bind, l2, D.tru, M.lift, M.pure, Bool.not_true, d2]
-- ### least_way, way_of_two, is_between 
theorem lw_row {p : Ve} {d : D} {G g : Int} {s2 s3 : Slot} {k b : Nat} (hm : bMax [.int 1, .int G] = some (.int g)) (hg : 0 < g) (hb : Sky.Bd b g) (hn : b < 9000) :
    dBi bTup (dCons (dLc [3] (dItems (dV 2)) (tgName 3) (dTrue) (dBin D.fdiv (dV 3) (dBi bMax (dCons (dC (.int 1)) (dCons (dV 1) (dNil)))))) (dNil)) [.val d, .val (.int G), .val p.D, s3] k = some ((⟨p.x / g, p.y / g, p.z / g⟩ : Ve).D, k) := by
  have st : ∀ x : Int, dBin D.fdiv (dV 3) (dBi bMax (dCons (dC (.int 1)) (dCons (dV 1) (dNil)))) ([.val d, .val (.int G), .val p.D, .no].set 3 (.val (.int x))) k = some (.int (x / g), k) := fun x =>
    bin_ok (x := .int x) (y := .int g) rfl (bi_ok (cons2_ok rfl rfl) hm) (fdiv_ok (divOk_bd hg hb hn))
  exact bi_ok (cons1_ok (lc_ok (items_ok rfl rfl) (lc_put (st _) (lc_put (st _) (lc_put (st _) lc_nil))) rfl)) rfl
theorem lowG_bd {w : Wy} {b : Nat} (hb : w.Bd b) (h1 : 1 ≤ b) : Sky.Bd b w.lowG := by
  unfold Wy.lowG
  by_cases c : w.g6 > 1
  · rw [if_pos c]
    obtain ⟨h1, h2, h3, h4, h5, h6⟩ := g6_dvd w
    have le : ∀ x : Int, w.g6 ∣ x → x ≠ 0 → w.g6.natAbs ≤ x.natAbs := fun x hd hx => Nat.le_of_dvd (by omega) (Int.natAbs_dvd_natAbs.mpr hd)
    by_cases z1 : w.s.x = 0
    · by_cases z2 : w.s.y = 0
      · by_cases z3 : w.s.z = 0
        · by_cases z4 : w.d.x = 0
          · by_cases z5 : w.d.y = 0
            · by_cases z6 : w.d.z = 0
              · have : w.g6 = 0 := by unfold Wy.g6; rw [z1, z2, z3, z4, z5, z6]; rfl
                omega
              · exact hb.2.c.le (le _ h6 z6)
            · exact hb.2.b.le (le _ h5 z5)
          · exact hb.2.a.le (le _ h4 z4)
        · exact hb.1.c.le (le _ h3 z3)
      · exact hb.1.b.le (le _ h2 z2)
    · exact hb.1.a.le (le _ h1 z1)
  · rw [if_neg c]
    exact Bd.mono (n := 1) (by unfold Sky.Bd; decide) h1
theorem lw_ret {w : Wy} {s2 s3 : Slot} {k b : Nat} (hb : w.Bd b) (h1 : 1 ≤ b) (hn : b < 9000) :
    dBi bTup (dCons (dLc [2] (dItems (dV 0)) (tgName 2) (dTrue) (dBi bTup (dCons (dLc [3] (dItems (dV 2)) (tgName 3) (dTrue) (dBin D.fdiv (dV 3) (dBi bMax (dCons (dC (.int 1)) (dCons (dV 1) (dNil)))))) (dNil)))) (dNil)) [.val w.D, .val (.int w.g6), s2, s3] k = some (w.low.D, k) := by
  have hm : bMax [.int 1, .int w.g6] = some (.int w.lowG) := rfl
  have r1 := lw_row (p := w.s) (d := w.D) (s2 := .no) (s3 := s3) (k := k) hm (lowG_pos w) (lowG_bd hb h1) hn
  have r2 := lw_row (p := w.d) (d := w.D) (s2 := .no) (s3 := s3) (k := k) hm (lowG_pos w) (lowG_bd hb h1) hn
  exact bi_ok (cons1_ok (lc_ok (items_ok rfl rfl) (lc_put (d := w.s.D) (x := w.low.s.D) r1 (lc_put (d := w.d.D) (x := w.low.d.D) r2 lc_nil)) rfl)) rfl
theorem least_way_ok {w : Wy} {b k : Nat} (hb : w.Bd b) (h1 : 1 ≤ b) (hn : b < 9000) : F_least_way [w.D] k = some (w.low.D, k) := by
  refine runB_ret ?_
  show S_least_way [.val w.D, .no, .no, .no] k = _
  unfold S_least_way
  rw [seq_nx (ρ' := [.val w.D, .val (.int 0), .no, .no]) (k' := k) rfl]
  have l : sFor (dItems (dV 0)) (tgName 2) (sSeq (sFor (dItems (dV 2)) (tgName 3) (sSeq (sAsg (dCall 2 F_common (dCons (dV 1) (dCons (dV 3) (dNil)))) (tgName 1)) (sNext))) (sNext)) [.val w.D, .val (.int 0), .no, .no] k = some (.nx [.val w.D, .val (.int w.g6), .val w.d.D, .val (.int w.d.z)], k) := by
    have st : ∀ (x y : Int) (d : D), (sSeq (sAsg (dCall 2 F_common (dCons (dV 1) (dCons (dV 3) (dNil)))) (tgName 1)) (sNext)) [.val w.D, .val (.int x), .val d, .val (.int y)] k = some (.nx [.val w.D, .val (.int (Int.gcd x y : Nat)), .val d, .val (.int y)], k) := fun x y d => by
      rw [seq_nx (asg_ok (c2_ok rfl rfl (common_spec (x := x) (y := y))))]; rfl
    have row : ∀ (p : Ve) (x : Int) (s3 : Slot), (sSeq (sFor (dItems (dV 2)) (tgName 3) (sSeq (sAsg (dCall 2 F_common (dCons (dV 1) (dCons (dV 3) (dNil)))) (tgName 1)) (sNext))) (sNext)) [.val w.D, .val (.int x), .val p.D, s3] k = some (.nx [.val w.D, .val (.int (Int.gcd (Int.gcd (Int.gcd x p.x) p.y) p.z : Nat)), .val p.D, .val (.int p.z)], k) := fun p x s3 => by
      have e : sFor (dItems (dV 2)) (tgName 3) (sSeq (sAsg (dCall 2 F_common (dCons (dV 1) (dCons (dV 3) (dNil)))) (tgName 1)) (sNext)) [.val w.D, .val (.int x), .val p.D, s3] k = some (.nx [.val w.D, .val (.int (Int.gcd (Int.gcd (Int.gcd x p.x) p.y) p.z : Nat)), .val p.D, .val (.int p.z)], k) :=
        (for_ok (k' := k) (ds := [.int p.x, .int p.y, .int p.z]) rfl).trans (for_nx rfl (st _ _ _) (for_nx rfl (st _ _ _) (for_nx rfl (st _ _ _) rfl)))
      rw [seq_nx e]; rfl
    exact (for_ok (k' := k) (ds := [w.s.D, w.d.D]) rfl).trans (for_nx rfl (row w.s 0 .no) (for_nx rfl (row w.d _ _) rfl))
  rw [seq_nx l]
  exact seq_ret (ret_ok (lw_ret hb h1 hn))
theorem by_bd {a b : Ve} {m n near far : Int} {c : Nat} (ha : a.Bd 10) (hb : b.Bd 10) (hm : Sky.Bd 7 m) (hn : Sky.Bd 7 n) (h1 : Sky.Bd c near) (h2 : Sky.Bd c far) : (Wy.by a b m n near far).Bd (c + 20) := by
  have st : ∀ x y : Int, Sky.Bd 10 x → Sky.Bd 10 y → Sky.Bd (c + 11) (far * y + -near * x) := fun x y hx hy => (h2.mul hy).add (h1.neg.mul hx)
  have go : ∀ x y : Int, Sky.Bd 10 x → Sky.Bd 10 y → Sky.Bd (c + 20) ((n - m) * near * x + -m * (far * y + -near * x)) := fun x y hx hy =>
    ((((hn.sub hm).mul h1).mul hx).mono (m := c + 19) (by omega)).add ((hm.neg.mul (st x y hx hy)).mono (by omega))
  exact ⟨⟨go _ _ ha.a hb.a, go _ _ ha.b hb.b, go _ _ ha.c hb.c⟩, ⟨(st _ _ ha.a hb.a).mono (by omega), (st _ _ ha.b hb.b).mono (by omega), (st _ _ ha.c hb.c).mono (by omega)⟩⟩
theorem way_of_two_ok {a b : Rw} {near far : Int} {c k : Nat} (ha : a.Ok) (hb : b.Ok) (h1 : Sky.Bd c near) (h2 : Sky.Bd c far) (hc : c < 1000) : F_way_of_two [a.D, b.D, .int near, .int far] k = some ((Wy.by a.p b.p a.n b.n near far).low.D, k) := by
  have ma := night_bd ha.l ha.h
  have mb := night_bd hb.l hb.h
  have bb := by_bd ha.b hb.b ma mb h1 h2
  have lw := least_way_ok (k := k) bb (by omega) (by omega)
  refine runB_ret ?_
  show S_way_of_two [.val a.D, .val b.D, .val (.int near), .val (.int far), .no, .no, .no] k = _
  unfold S_way_of_two
  have e0 : sAsg (dBin D.sub (dBin D.ix (dV 1) (dC (.int 0))) (dBin D.ix (dV 0) (dC (.int 0)))) (tgName 4) [.val a.D, .val b.D, .val (.int near), .val (.int far), .no, .no, .no] k = some (.nx [.val a.D, .val b.D, .val (.int near), .val (.int far), .val (.int (b.n - a.n)), .no, .no], k) := asg_ok (bin_ok (bin_ok rfl rfl rfl) (bin_ok rfl rfl rfl) rfl)
  rw [seq_nx e0]
  have e1 : sAsg (dCall 2 F_plus (dCons (dCall 2 F_times (dCons (dV 3) (dCons (dBin D.ix (dV 1) (dC (.int 1))) (dNil)))) (dCons (dCall 2 F_times (dCons (dUn D.neg (dV 2)) (dCons (dBin D.ix (dV 0) (dC (.int 1))) (dNil)))) (dNil)))) (tgName 5) [.val a.D, .val b.D, .val (.int near), .val (.int far), .val (.int (b.n - a.n)), .no, .no] k =
      some (.nx [.val a.D, .val b.D, .val (.int near), .val (.int far), .val (.int (b.n - a.n)), .val (Wy.by a.p b.p a.n b.n near far).d.D, .no], k) :=
    asg_ok (c2_ok (c2_ok rfl (bin_ok rfl rfl rfl) (times_ok h2 hb.b (by omega))) (c2_ok rfl (bin_ok rfl rfl rfl) (times_ok h1.neg ha.b (by omega))) plus_ok)
  rw [seq_nx e1]
  have e2 : sAsg (dCall 2 F_plus (dCons (dCall 2 F_times (dCons (dBin D.mul (dV 4) (dV 2)) (dCons (dBin D.ix (dV 0) (dC (.int 1))) (dNil)))) (dCons (dCall 2 F_times (dCons (dUn D.neg (dBin D.ix (dV 0) (dC (.int 0)))) (dCons (dV 5) (dNil)))) (dNil)))) (tgName 6) [.val a.D, .val b.D, .val (.int near), .val (.int far), .val (.int (b.n - a.n)), .val (Wy.by a.p b.p a.n b.n near far).d.D, .no] k =
      some (.nx [.val a.D, .val b.D, .val (.int near), .val (.int far), .val (.int (b.n - a.n)), .val (Wy.by a.p b.p a.n b.n near far).d.D, .val (Wy.by a.p b.p a.n b.n near far).s.D], k) :=
    asg_ok (c2_ok (c2_ok (bin_ok rfl rfl (mul_bd (mb.sub ma) h1 (by omega))) (bin_ok rfl rfl rfl) (times_ok ((mb.sub ma).mul h1) ha.b (by omega))) (c2_ok (un_ok (bin_ok rfl rfl rfl) rfl) rfl (times_ok ma.neg bb.2 (by omega))) plus_ok)
  rw [seq_nx e2]
  exact seq_ret (ret_ok (c1_ok (tup2_ok rfl rfl) lw))
theorem is_between_ok {u v w : Ve} {n k : Nat} (hu : u.Bd n) (hv : v.Bd n) (hw : w.Bd n) (hn : n < 1000) : F_is_between [u.D, v.D, w.D] k = some (.bl (decide (Btw u v w)), k) := by
  refine runB_ret ?_
  show S_is_between [.val u.D, .val v.D, .val w.D, .no] k = _
  unfold S_is_between
  have c1 : F_cross [u.D, w.D] k = some ((u.cr w).D, k) := crossB hu hw (by omega)
  have c2 : F_cross [u.D, v.D] k = some ((u.cr v).D, k) := crossB hu hv (by omega)
  have c3 : F_cross [v.D, w.D] k = some ((v.cr w).D, k) := crossB hv hw (by omega)
  have b1 : (u.cr w).Bd (n + n + 1) := hu.cross hw
  have b2 : (u.cr v).Bd (n + n + 1) := hu.cross hv
  have b3 : (v.cr w).Bd (n + n + 1) := hv.cross hw
  have d0 := ve_dot (k := k) b1 hv (by omega)
  have d1 := ve_dot (k := k) b2 b1 (by omega)
  have d2 := ve_dot (k := k) b3 b1 (by omega)
  have e : sAsg (dCall 2 F_cross (dCons (dV 0) (dCons (dV 2) (dNil)))) (tgName 3) [.val u.D, .val v.D, .val w.D, .no] k = some (.nx [.val u.D, .val v.D, .val w.D, .val (u.cr w).D], k) := asg_ok (c2_ok rfl rfl c1)
  rw [seq_nx e]
  have t1 := eq_ve0 (f := dV 3) (ρ := [.val u.D, .val v.D, .val w.D, .val (u.cr w).D]) (k := k) (k1 := k) (p := u.cr w) rfl
  have t2 := eqB_ok (neg := true) (f := dCall 2 F_dot (dCons (dV 3) (dCons (dV 1) (dNil)))) (g := dC (.int 0)) (ρ := [.val u.D, .val v.D, .val w.D, .val (u.cr w).D]) (k := k) (k1 := k) (k2 := k) (fun _ _ z => by cases z) (c2_ok rfl rfl d0) rfl eq_int
  have g1 : dBin (fun x y => (cGtA x y).map D.bl) (dCall 2 F_dot (dCons (dCall 2 F_cross (dCons (dV 0) (dCons (dV 1) (dNil)))) (dCons (dV 3) (dNil)))) (dC (.int 0)) [.val u.D, .val v.D, .val w.D, .val (u.cr w).D] k = some (.bl (decide (0 < (u.cr v).dot (u.cr w))), k) := bin_ok (c2_ok (c2_ok rfl rfl c2) rfl d1) rfl rfl
  have g2 : dBin (fun x y => (cGtA x y).map D.bl) (dCall 2 F_dot (dCons (dCall 2 F_cross (dCons (dV 1) (dCons (dV 2) (dNil)))) (dCons (dV 3) (dNil)))) (dC (.int 0)) [.val u.D, .val v.D, .val w.D, .val (u.cr w).D] k = some (.bl (decide (0 < (v.cr w).dot (u.cr w))), k) := bin_ok (c2_ok (c2_ok rfl rfl c3) rfl d2) rfl rfl
  by_cases z : (u.cr w).nz
  · rw [decide_eq_false z] at t1
    by_cases z0 : (u.cr w).dot v = 0
    · rw [decide_eq_true z0] at t2
      rw [seq_nx ((sif_f (or_f t1 t2)).trans rfl)]
      refine seq_ret (ret_ok ?_)
      by_cases z1 : 0 < (u.cr v).dot (u.cr w)
      · rw [decide_eq_true z1] at g1
        have : decide (Btw u v w) = decide (0 < (v.cr w).dot (u.cr w)) := decide_eq_decide.mpr ⟨fun h => h.2.2.2, fun h => ⟨z, z0, z1, h⟩⟩
        rw [this]
        simp only [dAndV, M.bind, g1, D.tru, M.lift, g2]
      · rw [decide_eq_false z1] at g1
        rw [decide_eq_false (fun h : Btw u v w => z1 h.2.2.1)]
        simp only [dAndV, M.bind, g1, D.tru, M.lift, M.pure]
    · rw [decide_eq_false z0] at t2
      rw [decide_eq_false (fun h : Btw u v w => z0 h.2.1)]
      exact seq_ret ((sif_t (or_f t1 t2)).trans rfl)
  · rw [decide_eq_true (Classical.not_not.mp z)] at t1
    rw [decide_eq_false (fun h : Btw u v w => z h.1)]
    exact seq_ret ((sif_t (or_t t1)).trans rfl)
end Sky

end
section
namespace Sky
open PySem PySem.Spec PyProof.Rows L2
def nearOf (a m c : Rw) : Int := (m.p.cr c.p).dot (a.p.cr c.p) * (m.n - a.n)
def farOf (a m c : Rw) : Int := (a.p.cr m.p).dot (a.p.cr c.p) * (c.n - m.n)
def by3 (a m c : Rw) : Wy := (Wy.by a.p c.p a.n c.n (nearOf a m c) (farOf a m c)).low
def wyI (a c : Rw) (t : Int) : Wy := (Wy.by a.p c.p a.n c.n 1 t).low
def still (p : Ve) : Wy := ⟨p, ⟨0, 0, 0⟩⟩
theorem bd0 {n : Nat} : Sky.Bd n 0 := Nat.pow_pos (by decide)
theorem still_bd {p : Ve} {n : Nat} (h : p.Bd n) : (still p).Bd n := ⟨h, ⟨bd0, bd0, bd0⟩⟩
theorem near_bd {a m c : Rw} (ha : a.Ok) (hm : m.Ok) (hc : c.Ok) : Sky.Bd 52 (nearOf a m c) ∧ Sky.Bd 52 (farOf a m c) := by
  have b1 : (a.p.cr c.p).Bd 21 := ha.b.cross hc.b
  have b2 : (a.p.cr m.p).Bd 21 := ha.b.cross hm.b
  have b3 : (m.p.cr c.p).Bd 21 := hm.b.cross hc.b
  exact ⟨(dot_bd b3 b1).mul ((night_bd hm.l hm.h).sub (night_bd ha.l ha.h)), (dot_bd b2 b1).mul ((night_bd hc.l hc.h).sub (night_bd hm.l hm.h))⟩
theorem by3_bd {a m c : Rw} (ha : a.Ok) (hm : m.Ok) (hc : c.Ok) : (by3 a m c).Bd 72 := by
  obtain ⟨h1, h2⟩ := near_bd ha hm hc
  exact low_bd (by_bd ha.b hc.b (night_bd ha.l ha.h) (night_bd hc.l hc.h) h1 h2)
section
variable {rows : List Rw} {a m c : Rw} {k : Nat}
abbrev wb2 : SemS := (sSeq (sIf (dTru (dCall 2 F_is_on_line (dCons (dBin D.ix (dV 1) (dC (.int 1))) (dCons (dBin D.ix (dV 2) (dC (.int 1))) (dNil))))) (sSeq (sRet (dTup (dNil))) (sNext)) (sNext)) (sSeq (sIf (dEqB eqT false (dBi bLen (dCons (dV 0) (dNil))) (dC (.int 2))) (sSeq (sRet (dTup (dCons (dCall 4 F_way_of_two (dCons (dV 1) (dCons (dV 2) (dCons (dC (.int 1)) (dCons (dC (.int 1)) (dNil)))))) (dCons (dCall 4 F_way_of_two (dCons (dV 1) (dCons (dV 2) (dCons (dC (.int 1)) (dCons (dC (.int 2)) (dNil)))))) (dNil))))) (sNext)) (sNext)) (sSeq (sAsg (dBin D.ix (dV 0) (dC (.int 1))) (tgName 4)) (sSeq (sIf (dNotB (dTru (dCall 3 F_is_between (dCons (dBin D.ix (dV 1) (dC (.int 1))) (dCons (dBin D.ix (dV 4) (dC (.int 1))) (dCons (dBin D.ix (dV 2) (dC (.int 1))) (dNil))))))) (sSeq (sRet (dTup (dNil))) (sNext)) (sNext)) (sSeq (sAsg (dCall 2 F_cross (dCons (dBin D.ix (dV 1) (dC (.int 1))) (dCons (dBin D.ix (dV 2) (dC (.int 1))) (dNil)))) (tgName 5)) (sSeq (sAsg (dBin D.mul (dCall 2 F_dot (dCons (dCall 2 F_cross (dCons (dBin D.ix (dV 4) (dC (.int 1))) (dCons (dBin D.ix (dV 2) (dC (.int 1))) (dNil)))) (dCons (dV 5) (dNil)))) (dBin D.sub (dBin D.ix (dV 4) (dC (.int 0))) (dBin D.ix (dV 1) (dC (.int 0))))) (tgName 6)) (sSeq (sAsg (dBin D.mul (dCall 2 F_dot (dCons (dCall 2 F_cross (dCons (dBin D.ix (dV 1) (dC (.int 1))) (dCons (dBin D.ix (dV 4) (dC (.int 1))) (dNil)))) (dCons (dV 5) (dNil)))) (dBin D.sub (dBin D.ix (dV 2) (dC (.int 0))) (dBin D.ix (dV 4) (dC (.int 0))))) (tgName 7)) (sSeq (sAsg (dCall 4 F_way_of_two (dCons (dV 1) (dCons (dV 2) (dCons (dV 6) (dCons (dV 7) (dNil)))))) (tgName 3)) (sSeq (sRet (dIf (dTru (dCall 2 F_is_seen (dCons (dV 3) (dCons (dV 0) (dNil))))) (dTup (dCons (dV 3) (dNil))) (dTup (dNil)))) (sNext))))))))))
abbrev wb1 : SemS := sIf (dEqB eqT false (dCall 1 F_least (dCons (dBin D.ix (dV 1) (dC (.int 1))) (dNil))) (dCall 1 F_least (dCons (dBin D.ix (dV 2) (dC (.int 1))) (dNil)))) (sSeq (sAsg (dTup (dCons (dTup (dCons (dCall 1 F_least (dCons (dBin D.ix (dV 1) (dC (.int 1))) (dNil))) (dCons (dTup (dCons (dC (.int 0)) (dCons (dC (.int 0)) (dCons (dC (.int 0)) (dNil))))) (dNil)))) (dCons (dTup (dCons (dCall 1 F_least (dCons (dBin D.ix (dV 1) (dC (.int 1))) (dNil))) (dCons (dCall 1 F_least (dCons (dBin D.ix (dV 1) (dC (.int 1))) (dNil))) (dNil)))) (dNil)))) (tgName 3)) (sSeq (sRet (dIf (dTru (dCall 2 F_is_seen (dCons (dBin D.ix (dV 3) (dC (.int 0))) (dCons (dV 0) (dNil))))) (dV 3) (dTup (dNil)))) (sNext))) (sNext)
theorem wb_eq : S_ways_by = sSeq (sPar2 1 2 (dBin D.ix (dV 0) (dC (.int 0))) (dBin D.ix (dV 0) (dUn D.neg (dC (.int 1))))) (sSeq wb1 wb2) := rfl
theorem wb_head (ha : a.Ok) (hc : c.Ok) (hx : D.ix (.lst (rows.map Rw.D)) (.int 0) = some a.D) (hy : D.ix (.lst (rows.map Rw.D)) (.int (-1)) = some c.D) :
    sPar2 1 2 (dBin D.ix (dV 0) (dC (.int 0))) (dBin D.ix (dV 0) (dUn D.neg (dC (.int 1)))) [.val (.lst (rows.map Rw.D)), .no, .no, .no, .no, .no, .no, .no] k = some (.nx [.val (.lst (rows.map Rw.D)), .val a.D, .val c.D, .no, .no, .no, .no, .no], k) ∧
    dEqB eqT false (dCall 1 F_least (dCons (dBin D.ix (dV 1) (dC (.int 1))) (dNil))) (dCall 1 F_least (dCons (dBin D.ix (dV 2) (dC (.int 1))) (dNil))) [.val (.lst (rows.map Rw.D)), .val a.D, .val c.D, .no, .no, .no, .no, .no] k = some (decide (a.p = c.p), k) := by
  have l1 := lst_ok (k := k) (prim_nz ha.p) ha.b (by decide)
  rw [prim_lst ha.p] at l1
  have l2 := lst_ok (k := k) (prim_nz hc.p) hc.b (by decide)
  rw [prim_lst hc.p] at l2
  refine ⟨par2_ok (bin_ok rfl rfl hx) (bin_ok rfl rfl hy), ?_⟩
  have := eqB_ve (neg := false) (f := dCall 1 F_least (dCons (dBin D.ix (dV 1) (dC (.int 1))) (dNil))) (g := dCall 1 F_least (dCons (dBin D.ix (dV 2) (dC (.int 1))) (dNil))) (ρ := [.val (.lst (rows.map Rw.D)), .val a.D, .val c.D, .no, .no, .no, .no, .no]) (k := k) (k1 := k) (k2 := k) (p := a.p) (q := c.p) (c1_ok (bin_ok rfl rfl rfl) l1) (c1_ok (bin_ok rfl rfl rfl) l2)
  rw [this, Bool.false_xor]
/-- the first and the last alike -/
theorem ways_alike (h0 : rows ≠ []) (ho : Ord (-1) rows) (hr : ∀ r ∈ rows, r.Ok) (ha : a.Ok) (hc : c.Ok) (hx : D.ix (.lst (rows.map Rw.D)) (.int 0) = some a.D) (hy : D.ix (.lst (rows.map Rw.D)) (.int (-1)) = some c.D) (e : a.p = c.p) :
    F_ways_by [.lst (rows.map Rw.D)] k = some (if seenB (still a.p) rows a.n c.n then .tup [(still a.p).D, (⟨a.p, a.p⟩ : Wy).D] else .tup [], k) := by
  refine runB_ret ?_
  show S_ways_by [.val (.lst (rows.map Rw.D)), .no, .no, .no, .no, .no, .no, .no] k = _
  rw [wb_eq]
  obtain ⟨p1, t⟩ := wb_head (k := k) ha hc hx hy
  rw [decide_eq_true e] at t
  rw [seq_nx p1]
  have l1 := lst_ok (k := k) (prim_nz ha.p) ha.b (by decide)
  rw [prim_lst ha.p] at l1
  have li : dCall 1 F_least (dCons (dBin D.ix (dV 1) (dC (.int 1))) (dNil)) [.val (.lst (rows.map Rw.D)), .val a.D, .val c.D, .no, .no, .no, .no, .no] k = some (a.p.D, k) := c1_ok (bin_ok rfl rfl rfl) l1
  have s : sAsg (dTup (dCons (dTup (dCons (dCall 1 F_least (dCons (dBin D.ix (dV 1) (dC (.int 1))) (dNil))) (dCons (dTup (dCons (dC (.int 0)) (dCons (dC (.int 0)) (dCons (dC (.int 0)) (dNil))))) (dNil)))) (dCons (dTup (dCons (dCall 1 F_least (dCons (dBin D.ix (dV 1) (dC (.int 1))) (dNil))) (dCons (dCall 1 F_least (dCons (dBin D.ix (dV 1) (dC (.int 1))) (dNil))) (dNil)))) (dNil)))) (tgName 3) [.val (.lst (rows.map Rw.D)), .val a.D, .val c.D, .no, .no, .no, .no, .no] k =
      some (.nx [.val (.lst (rows.map Rw.D)), .val a.D, .val c.D, .val (.tup [(still a.p).D, (⟨a.p, a.p⟩ : Wy).D]), .no, .no, .no, .no], k) := asg_ok (tup2_ok (tup2_ok li rfl) (tup2_ok li li))
  have sn := is_seen_ok (k := k) (still_bd ha.b) (by decide) h0 ho hr hx hy ha hc
  refine seq_ret ((sif_t t).trans ?_)
  rw [seq_nx s]
  refine seq_ret (ret_ok ?_)
  have sb := tru_ok (f := dCall 2 F_is_seen (dCons (dBin D.ix (dV 3) (dC (.int 0))) (dCons (dV 0) (dNil)))) (ρ := [.val (.lst (rows.map Rw.D)), .val a.D, .val c.D, .val (.tup [(still a.p).D, (⟨a.p, a.p⟩ : Wy).D]), .no, .no, .no, .no]) (k := k) (c2_ok (bin_ok rfl rfl rfl) rfl sn)
  cases hs : seenB (still a.p) rows a.n c.n with
  | true => rw [hs] at sb; rw [if_t sb]; rfl
  | false => rw [hs] at sb; rw [if_f sb]; rfl
theorem wb_mid (ha : a.Ok) (hc : c.Ok) (hx : D.ix (.lst (rows.map Rw.D)) (.int 0) = some a.D) (hy : D.ix (.lst (rows.map Rw.D)) (.int (-1)) = some c.D) (e : (a.p.cr c.p).nz) {r : Option (Out × Nat)}
    (h : ((sSeq (sIf (dEqB eqT false (dBi bLen (dCons (dV 0) (dNil))) (dC (.int 2))) (sSeq (sRet (dTup (dCons (dCall 4 F_way_of_two (dCons (dV 1) (dCons (dV 2) (dCons (dC (.int 1)) (dCons (dC (.int 1)) (dNil)))))) (dCons (dCall 4 F_way_of_two (dCons (dV 1) (dCons (dV 2) (dCons (dC (.int 1)) (dCons (dC (.int 2)) (dNil)))))) (dNil))))) (sNext)) (sNext)) (sSeq (sAsg (dBin D.ix (dV 0) (dC (.int 1))) (tgName 4)) (sSeq (sIf (dNotB (dTru (dCall 3 F_is_between (dCons (dBin D.ix (dV 1) (dC (.int 1))) (dCons (dBin D.ix (dV 4) (dC (.int 1))) (dCons (dBin D.ix (dV 2) (dC (.int 1))) (dNil))))))) (sSeq (sRet (dTup (dNil))) (sNext)) (sNext)) (sSeq (sAsg (dCall 2 F_cross (dCons (dBin D.ix (dV 1) (dC (.int 1))) (dCons (dBin D.ix (dV 2) (dC (.int 1))) (dNil)))) (tgName 5)) (sSeq (sAsg (dBin D.mul (dCall 2 F_dot (dCons (dCall 2 F_cross (dCons (dBin D.ix (dV 4) (dC (.int 1))) (dCons (dBin D.ix (dV 2) (dC (.int 1))) (dNil)))) (dCons (dV 5) (dNil)))) (dBin D.sub (dBin D.ix (dV 4) (dC (.int 0))) (dBin D.ix (dV 1) (dC (.int 0))))) (tgName 6)) (sSeq (sAsg (dBin D.mul (dCall 2 F_dot (dCons (dCall 2 F_cross (dCons (dBin D.ix (dV 1) (dC (.int 1))) (dCons (dBin D.ix (dV 4) (dC (.int 1))) (dNil)))) (dCons (dV 5) (dNil)))) (dBin D.sub (dBin D.ix (dV 2) (dC (.int 0))) (dBin D.ix (dV 4) (dC (.int 0))))) (tgName 7)) (sSeq (sAsg (dCall 4 F_way_of_two (dCons (dV 1) (dCons (dV 2) (dCons (dV 6) (dCons (dV 7) (dNil)))))) (tgName 3)) (sSeq (sRet (dIf (dTru (dCall 2 F_is_seen (dCons (dV 3) (dCons (dV 0) (dNil))))) (dTup (dCons (dV 3) (dNil))) (dTup (dNil)))) (sNext))))))))) : SemS) [.val (.lst (rows.map Rw.D)), .val a.D, .val c.D, .no, .no, .no, .no, .no] k = r) :
    S_ways_by [.val (.lst (rows.map Rw.D)), .no, .no, .no, .no, .no, .no, .no] k = r := by
  rw [wb_eq]
  obtain ⟨p1, t⟩ := wb_head (k := k) ha hc hx hy
  have ne : a.p ≠ c.p := fun z => e (by rw [z, cr_self]; exact ⟨rfl, rfl, rfl⟩)
  rw [decide_eq_false ne] at t
  rw [seq_nx p1, seq_nx ((sif_f t).trans rfl)]
  have li : F_is_on_line [a.p.D, c.p.D] k = some (.bl (decide ((a.p.cr c.p).x = 0 ∧ (a.p.cr c.p).y = 0 ∧ (a.p.cr c.p).z = 0)), k) := lineB (k := k) ha.b hc.b (by decide)
  rw [decide_eq_false e] at li
  unfold wb2
  rw [seq_nx ((sif_f (tru_ok (c2_ok (bin_ok rfl rfl rfl) (bin_ok rfl rfl rfl) li))).trans rfl)]
  exact h
theorem ways_two (ha : a.Ok) (hc : c.Ok) (e : (a.p.cr c.p).nz) : F_ways_by [.lst [a.D, c.D]] k = some (.tup [(wyI a c 1).D, (wyI a c 2).D], k) := by
  refine runB_ret ?_
  show S_ways_by [.val (.lst ([a, c].map Rw.D)), .no, .no, .no, .no, .no, .no, .no] k = _
  refine wb_mid ha hc rfl rfl e ?_
  have t : dEqB eqT false (dBi bLen (dCons (dV 0) (dNil))) (dC (.int 2)) [.val (.lst ([a, c].map Rw.D)), .val a.D, .val c.D, .no, .no, .no, .no, .no] k = some (true, k) := (eqB_ok (neg := false) (d := .int 2) (e := .int 2) (k2 := k) (fun _ _ z => by cases z) (bi_ok (cons1_ok rfl) rfl) rfl eq_int).trans rfl
  refine seq_ret ((sif_t t).trans ?_)
  have b1 : Sky.Bd 2 1 := by unfold Sky.Bd; decide
  have b2 : Sky.Bd 2 2 := by unfold Sky.Bd; decide
  exact seq_ret (ret_ok (tup2_ok (c4_ok rfl rfl rfl rfl (way_of_two_ok ha hc b1 b1 (by decide))) (c4_ok rfl rfl rfl rfl (way_of_two_ok ha hc b1 b2 (by decide)))))
def goodB (a m c : Rw) (rows : List Rw) : Bool := decide (Btw a.p m.p c.p) && seenB (by3 a m c) rows a.n c.n
theorem ways_more (h0 : rows ≠ []) (ho : Ord (-1) rows) (hr : ∀ r ∈ rows, r.Ok) (ha : a.Ok) (hm : m.Ok) (hc : c.Ok) (hx : D.ix (.lst (rows.map Rw.D)) (.int 0) = some a.D) (hy : D.ix (.lst (rows.map Rw.D)) (.int (-1)) = some c.D) (hz : D.ix (.lst (rows.map Rw.D)) (.int 1) = some m.D) (hl : ((rows.map Rw.D).length : Int) ≠ 2) (e : (a.p.cr c.p).nz) :
    F_ways_by [.lst (rows.map Rw.D)] k = some (if goodB a m c rows then .tup [(by3 a m c).D] else .tup [], k) := by
  refine runB_ret ?_
  show S_ways_by [.val (.lst (rows.map Rw.D)), .no, .no, .no, .no, .no, .no, .no] k = _
  refine wb_mid ha hc hx hy e ?_
  have t : dEqB eqT false (dBi bLen (dCons (dV 0) (dNil))) (dC (.int 2)) [.val (.lst (rows.map Rw.D)), .val a.D, .val c.D, .no, .no, .no, .no, .no] k = _ := eqB_ok (neg := false) (d := .int (rows.map Rw.D).length) (e := .int 2) (k2 := k) (fun _ _ z => by cases z) (bi_ok (cons1_ok rfl) rfl) rfl eq_int
  rw [decide_eq_false hl] at t
  have s4 : sAsg (dBin D.ix (dV 0) (dC (.int 1))) (tgName 4) [.val (.lst (rows.map Rw.D)), .val a.D, .val c.D, .no, .no, .no, .no, .no] k = some (.nx [.val (.lst (rows.map Rw.D)), .val a.D, .val c.D, .no, .val m.D, .no, .no, .no], k) := asg_ok (bin_ok rfl rfl hz)
  rw [seq_nx ((sif_f t).trans rfl), seq_nx s4]
  have bt := is_between_ok (k := k) ha.b hm.b hc.b (by decide)
  have t2 := not_ok (tru_ok (f := dCall 3 F_is_between (dCons (dBin D.ix (dV 1) (dC (.int 1))) (dCons (dBin D.ix (dV 4) (dC (.int 1))) (dCons (dBin D.ix (dV 2) (dC (.int 1))) (dNil))))) (ρ := [.val (.lst (rows.map Rw.D)), .val a.D, .val c.D, .no, .val m.D, .no, .no, .no]) (k := k) (c3_ok (bin_ok rfl rfl rfl) (bin_ok rfl rfl rfl) (bin_ok rfl rfl rfl) bt))
  unfold goodB
  by_cases z : Btw a.p m.p c.p
  · rw [decide_eq_true z] at t2 ⊢
    rw [Bool.true_and]
    rw [seq_nx (ρ' := [.val (.lst (rows.map Rw.D)), .val a.D, .val c.D, .no, .val m.D, .no, .no, .no]) (k' := k) ((sif_f t2).trans rfl)]
    have c1 : F_cross [a.p.D, c.p.D] k = some ((a.p.cr c.p).D, k) := crossB ha.b hc.b (by decide)
    have c2 : F_cross [a.p.D, m.p.D] k = some ((a.p.cr m.p).D, k) := crossB ha.b hm.b (by decide)
    have c3 : F_cross [m.p.D, c.p.D] k = some ((m.p.cr c.p).D, k) := crossB hm.b hc.b (by decide)
    have b1 : (a.p.cr c.p).Bd 21 := ha.b.cross hc.b
    have b2 : (a.p.cr m.p).Bd 21 := ha.b.cross hm.b
    have b3 : (m.p.cr c.p).Bd 21 := hm.b.cross hc.b
    have d1 := ve_dot (k := k) b2 b1 (by decide)
    have d2 := ve_dot (k := k) b3 b1 (by decide)
    have nb1 := (night_bd hm.l hm.h).sub (night_bd ha.l ha.h)
    have nb2 := (night_bd hc.l hc.h).sub (night_bd hm.l hm.h)
    have s5 : sAsg (dCall 2 F_cross (dCons (dBin D.ix (dV 1) (dC (.int 1))) (dCons (dBin D.ix (dV 2) (dC (.int 1))) (dNil)))) (tgName 5) [.val (.lst (rows.map Rw.D)), .val a.D, .val c.D, .no, .val m.D, .no, .no, .no] k = some (.nx [.val (.lst (rows.map Rw.D)), .val a.D, .val c.D, .no, .val m.D, .val (a.p.cr c.p).D, .no, .no], k) := asg_ok (c2_ok (bin_ok rfl rfl rfl) (bin_ok rfl rfl rfl) c1)
    have s6 : sAsg (dBin D.mul (dCall 2 F_dot (dCons (dCall 2 F_cross (dCons (dBin D.ix (dV 4) (dC (.int 1))) (dCons (dBin D.ix (dV 2) (dC (.int 1))) (dNil)))) (dCons (dV 5) (dNil)))) (dBin D.sub (dBin D.ix (dV 4) (dC (.int 0))) (dBin D.ix (dV 1) (dC (.int 0))))) (tgName 6) [.val (.lst (rows.map Rw.D)), .val a.D, .val c.D, .no, .val m.D, .val (a.p.cr c.p).D, .no, .no] k =
        some (.nx [.val (.lst (rows.map Rw.D)), .val a.D, .val c.D, .no, .val m.D, .val (a.p.cr c.p).D, .val (.int (nearOf a m c)), .no], k) :=
      asg_ok (bin_ok (c2_ok (c2_ok (bin_ok rfl rfl rfl) (bin_ok rfl rfl rfl) c3) rfl d2) (bin_ok (bin_ok rfl rfl rfl) (bin_ok rfl rfl rfl) rfl) (mul_bd (dot_bd b3 b1) nb1 (by decide)))
    have s7 : sAsg (dBin D.mul (dCall 2 F_dot (dCons (dCall 2 F_cross (dCons (dBin D.ix (dV 1) (dC (.int 1))) (dCons (dBin D.ix (dV 4) (dC (.int 1))) (dNil)))) (dCons (dV 5) (dNil)))) (dBin D.sub (dBin D.ix (dV 2) (dC (.int 0))) (dBin D.ix (dV 4) (dC (.int 0))))) (tgName 7) [.val (.lst (rows.map Rw.D)), .val a.D, .val c.D, .no, .val m.D, .val (a.p.cr c.p).D, .val (.int (nearOf a m c)), .no] k =
        some (.nx [.val (.lst (rows.map Rw.D)), .val a.D, .val c.D, .no, .val m.D, .val (a.p.cr c.p).D, .val (.int (nearOf a m c)), .val (.int (farOf a m c))], k) :=
      asg_ok (bin_ok (c2_ok (c2_ok (bin_ok rfl rfl rfl) (bin_ok rfl rfl rfl) c2) rfl d1) (bin_ok (bin_ok rfl rfl rfl) (bin_ok rfl rfl rfl) rfl) (mul_bd (dot_bd b2 b1) nb2 (by decide)))
    obtain ⟨h1, h2⟩ := near_bd ha hm hc
    have s3 : sAsg (dCall 4 F_way_of_two (dCons (dV 1) (dCons (dV 2) (dCons (dV 6) (dCons (dV 7) (dNil)))))) (tgName 3) [.val (.lst (rows.map Rw.D)), .val a.D, .val c.D, .no, .val m.D, .val (a.p.cr c.p).D, .val (.int (nearOf a m c)), .val (.int (farOf a m c))] k =
        some (.nx [.val (.lst (rows.map Rw.D)), .val a.D, .val c.D, .val (by3 a m c).D, .val m.D, .val (a.p.cr c.p).D, .val (.int (nearOf a m c)), .val (.int (farOf a m c))], k) := asg_ok (c4_ok rfl rfl rfl rfl (way_of_two_ok ha hc h1 h2 (by decide)))
    rw [seq_nx s5, seq_nx s6, seq_nx s7, seq_nx s3]
    refine seq_ret (ret_ok ?_)
    have sn := is_seen_ok (k := k) (by3_bd ha hm hc) (by decide) h0 ho hr hx hy ha hc
    have sb := tru_ok (f := dCall 2 F_is_seen (dCons (dV 3) (dCons (dV 0) (dNil)))) (ρ := [.val (.lst (rows.map Rw.D)), .val a.D, .val c.D, .val (by3 a m c).D, .val m.D, .val (a.p.cr c.p).D, .val (.int (nearOf a m c)), .val (.int (farOf a m c))]) (k := k) (c2_ok rfl rfl sn)
    cases hs : seenB (by3 a m c) rows a.n c.n with
    | true => rw [hs] at sb; rw [if_t sb]; rfl
    | false => rw [hs] at sb; rw [if_f sb]; rfl
  · rw [decide_eq_false z] at t2 ⊢
    rw [Bool.false_and]
    exact seq_ret ((sif_t t2).trans rfl)
end
-- ### judge_way 
theorem eq_nil0 : cEqP (.tup []) (.tup []) = some true := by decide +kernel
theorem eq_nil1 {w : Wy} : cEqP (.tup [w.D]) (.tup []) = some false := by
  unfold cEqP
  simp [D.py, D.pys, SeqAt.shaped, PyData.canLay0, PyData.canLayAll0, PyData.depth, PyData.depthAll, PyData.eqv, PyData.eqvAll]
theorem eq_nil2 {w v : Wy} : cEqP (.tup [w.D, v.D]) (.tup []) = some false := by
  unfold cEqP
  simp [D.py, D.pys, SeqAt.shaped, PyData.canLay0, PyData.canLayAll0, PyData.depth, PyData.depthAll, PyData.eqv, PyData.eqvAll]
abbrev jwB : SemS := (sSeq (sIf (dEqB eqT false (dCall 1 F_ways_by (dCons (dSl (dV 0) (dNoPart) (dPart (dV 1))) (dNil))) (dTup (dNil))) (sSeq (sRet (dMake .NoWay 1 FI_NoWay (dCons (dUn D.lrg (dV 1)) (dNil)))) (sNext)) (sNext)) (sNext))
def noD (n : Nat) : D := .ins .NoWay [.tup (rangeD 0 n)]
def wayD (w : Wy) : D := .ins .Way [w.s.D, w.d.D]
theorem jw_go {ρ : Env} {k : Nat} {x y : D} (h1 : dSl (dV 0) (dNoPart) (dPart (dV 1)) ρ k = some (x, k)) (h2 : F_ways_by [x] k = some (y, k)) (h3 : cEqP y (.tup []) = some false) (hy : ∀ c fs, y ≠ .ins c fs) : jwB ρ k = some (.nx ρ, k) := by
  have t := eqB_ok (neg := false) (g := dTup dNil) (k2 := k) hy (c1_ok (F := F_ways_by) h1 h2) rfl h3
  exact (seq_nx ((sif_f t).trans rfl)).trans rfl
theorem jw_no {ρ : Env} {k n : Nat} {x : D} (h1 : dSl (dV 0) (dNoPart) (dPart (dV 1)) ρ k = some (x, k)) (h2 : F_ways_by [x] k = some (.tup [], k)) (h3 : dMake .NoWay 1 FI_NoWay (dCons (dUn D.lrg (dV 1)) (dNil)) ρ k = some (noD n, k)) : jwB ρ k = some (.ret (noD n), k) := by
  have t := eqB_ok (neg := false) (g := dTup dNil) (k2 := k) (fun _ _ z => by cases z) (c1_ok (F := F_ways_by) h1 h2) rfl eq_nil0
  exact seq_ret ((sif_t t).trans (seq_ret (ret_ok h3)))
theorem jw_eq : S_judge_way = sSeq (sDrop (dCall 1 F_check_sightings (dCons (dV 0) (dNil)))) (sSeq (sFor (dRng (dCons (dC (.int 1)) (dCons (dBin D.add (dBi bLen (dCons (dV 0) (dNil))) (dC (.int 1))) dNil))) (tgName 1) jwB) (sSeq (sAsg (dCall 1 F_ways_by (dCons (dV 0) (dNil))) (tgName 2)) (sSeq (sRet (dIf (dEqB eqT false (dBi bLen (dCons (dV 2) (dNil))) (dC (.int 1))) (dMake .Way 2 FI_Way (dCons (dBin D.ix (dBin D.ix (dV 2) (dC (.int 0))) (dC (.int 0))) (dCons (dBin D.ix (dBin D.ix (dV 2) (dC (.int 0))) (dC (.int 1))) (dNil)))) (dMake .Ways 2 FI_Ways (dCons (dBin D.ix (dV 2) (dC (.int 0))) (dCons (dBin D.ix (dV 2) (dC (.int 1))) (dNil)))))) (sNext)))) := rfl
theorem jw_way {L : D} {w : Wy} {s1 : Slot} {k : Nat} (h : F_ways_by [L] k = some (.tup [w.D], k)) : (sSeq (sAsg (dCall 1 F_ways_by (dCons (dV 0) (dNil))) (tgName 2)) (sSeq (sRet (dIf (dEqB eqT false (dBi bLen (dCons (dV 2) (dNil))) (dC (.int 1))) (dMake .Way 2 FI_Way (dCons (dBin D.ix (dBin D.ix (dV 2) (dC (.int 0))) (dC (.int 0))) (dCons (dBin D.ix (dBin D.ix (dV 2) (dC (.int 0))) (dC (.int 1))) (dNil)))) (dMake .Ways 2 FI_Ways (dCons (dBin D.ix (dV 2) (dC (.int 0))) (dCons (dBin D.ix (dV 2) (dC (.int 1))) (dNil)))))) (sNext))) [.val L, s1, .no] k = some (.ret (wayD w), k) := by
  have e : sAsg (dCall 1 F_ways_by (dCons (dV 0) (dNil))) (tgName 2) [.val L, s1, .no] k = some (.nx [.val L, s1, .val (.tup [w.D])], k) := asg_ok (c1_ok rfl h)
  rw [seq_nx e]
  have t : dEqB eqT false (dBi bLen (dCons (dV 2) (dNil))) (dC (.int 1)) [.val L, s1, .val (.tup [w.D])] k = some (true, k) := (eqB_ok (neg := false) (d := .int 1) (e := .int 1) (k2 := k) (fun _ _ z => by cases z) (bi_ok (cons1_ok rfl) rfl) rfl eq_int).trans rfl
  refine seq_ret (ret_ok ?_)
  rw [if_t t]
  exact make_ok (c := .Way) (cons2_ok (bin_ok (bin_ok rfl rfl rfl) rfl rfl) (bin_ok (bin_ok rfl rfl rfl) rfl rfl)) rfl rfl rfl
theorem rng_up3 {f g : Sem} {ρ : Env} {k : Nat} {n : Nat} (hn : n < 100) (h1 : f ρ k = some (.int 1, k)) (h2 : g ρ k = some (.int ((n : Nat) + 1), k)) : dRng (dCons f (dCons g dNil)) ρ k = some (rangeD 1 n, k) := by
  refine dRng_ok (cons2_ok h1 h2) ?_
  have o1 : okR 1 = true := rfl
  have o2 : okR ((n : Int) + 1) = true := by
    have e : (2 : Int) ^ 62 = 4611686018427387904 := rfl
    unfold okR
    rw [Bool.and_eq_true_iff, e]
    exact ⟨decide_eq_true (by omega), decide_eq_true (by omega)⟩
  have en : ((n : Int) + 1 - 1).toNat = n := by omega
  show (if okR 1 && okR ((n : Int) + 1) then some (rangeD 1 ((n : Int) + 1 - 1).toNat) else none) = _
  rw [o1, o2, en]
  rfl
end Sky

end
section
namespace Sky
open PySem PySem.Spec PyProof.Rows L2
theorem still_at (p : Ve) (n : Int) : (still p).at n = p := ve_ext (by simp [still, Wy.at]) (by simp [still, Wy.at]) (by simp [still, Wy.at])
theorem seen_one {a : Rw} (oa : a.Ok) : seenB (still a.p) [a] a.n a.n = true := by
  have nz := prim_nz oa.p
  unfold seenB rowB
  simp only [List.all_cons, List.all_nil, still_at, Bool.and_true]
  rw [decide_eq_true nz, decide_eq_true (prim_lst oa.p), decide_eq_true (Ve.dot_pos nz), Bool.or_true]
  rfl
section
variable {a b c d : Rw} {L : List D} {s2 : Slot} {k : Nat}
theorem go1 (oa : a.Ok) (h : dSl (dV 0) (dNoPart) (dPart (dV 1)) [.val (.lst L), .val (.int 1), s2] k = some (.lst [a.D], k)) : jwB [.val (.lst L), .val (.int 1), s2] k = some (.nx [.val (.lst L), .val (.int 1), s2], k) := by
  have w := ways_alike (rows := [a]) (a := a) (c := a) (k := k) (by simp) ⟨by have := oa.l; omega, oa, trivial⟩ (fun r hr => by rw [List.mem_singleton] at hr; rw [hr]; exact oa) oa oa rfl rfl rfl
  rw [seen_one oa] at w
  exact jw_go h w eq_nil2 (fun _ _ z => by cases z)
theorem go2 (oa : a.Ok) (ob : b.Ok) (e : (a.p.cr b.p).nz) (h : dSl (dV 0) (dNoPart) (dPart (dV 1)) [.val (.lst L), .val (.int 2), s2] k = some (.lst [a.D, b.D], k)) : jwB [.val (.lst L), .val (.int 2), s2] k = some (.nx [.val (.lst L), .val (.int 2), s2], k) :=
  jw_go h (ways_two oa ob e) eq_nil2 (fun _ _ z => by cases z)
theorem ways3 (oa : a.Ok) (ob : b.Ok) (oc : c.Ok) (h1 : a.n < b.n) (h2 : b.n < c.n) (e : (a.p.cr c.p).nz) (k : Nat) : F_ways_by [.lst [a.D, b.D, c.D]] k = some (if goodB a b c [a, b, c] then .tup [(by3 a b c).D] else .tup [], k) :=
  ways_more (rows := [a, b, c]) (by simp) ⟨by have := oa.l; omega, oa, by omega, ob, by omega, oc, trivial⟩ (fun r hr => by
    rcases List.mem_cons.mp hr with z | hr
    · rw [z]; exact oa
    · rcases List.mem_cons.mp hr with z | hr
      · rw [z]; exact ob
      · rw [List.mem_singleton.mp hr]; exact oc) oa ob oc rfl rfl rfl (show ((3 : Nat) : Int) ≠ 2 by decide) e
theorem ways4 (oa : a.Ok) (ob : b.Ok) (oc : c.Ok) (od : d.Ok) (h1 : a.n < b.n) (h2 : b.n < c.n) (h3 : c.n < d.n) (e : (a.p.cr d.p).nz) (k : Nat) : F_ways_by [.lst [a.D, b.D, c.D, d.D]] k = some (if goodB a b d [a, b, c, d] then .tup [(by3 a b d).D] else .tup [], k) :=
  ways_more (rows := [a, b, c, d]) (by simp) ⟨by have := oa.l; omega, oa, by omega, ob, by omega, oc, by omega, od, trivial⟩ (fun r hr => by
    rcases List.mem_cons.mp hr with z | hr
    · rw [z]; exact oa
    · rcases List.mem_cons.mp hr with z | hr
      · rw [z]; exact ob
      · rcases List.mem_cons.mp hr with z | hr
        · rw [z]; exact oc
        · rw [List.mem_singleton.mp hr]; exact od) oa ob od rfl rfl rfl (show ((4 : Nat) : Int) ≠ 2 by decide) e
theorem judge3 (oa : a.Ok) (ob : b.Ok) (oc : c.Ok) (h1 : a.n < b.n) (h2 : b.n < c.n) (e1 : (a.p.cr b.p).nz) (e2 : (a.p.cr c.p).nz) (k : Nat) : F_judge_way [.lst [a.D, b.D, c.D]] k = some (if goodB a b c [a, b, c] then wayD (by3 a b c) else noD 3, k) := by
  have w := ways3 oa ob oc h1 h2 e2 k
  refine runB_ret ?_
  show S_judge_way [.val (.lst [a.D, b.D, c.D]), .no, .no] k = _
  rw [jw_eq, seq_nx (drop_ok (c1_ok rfl (check_sightings_ok (rows := [a, b, c]) (by simp) ⟨by have := oa.l; omega, oa, by omega, ob, by omega, oc, trivial⟩)))]
  have f : sFor (dRng (dCons (dC (.int 1)) (dCons (dBin D.add (dBi bLen (dCons (dV 0) (dNil))) (dC (.int 1))) dNil))) (tgName 1) jwB [.val (.lst [a.D, b.D, c.D]), .no, .no] k = forLoop (tgName 1) jwB [.int 1, .int 2, .int 3] [.val (.lst [a.D, b.D, c.D]), .no, .no] k := for_ok (rng_up3 (n := 3) (by decide) rfl rfl)
  have p1 := go1 (a := a) (L := [a.D, b.D, c.D]) (s2 := .no) (k := k) oa rfl
  have p2 := go2 (a := a) (b := b) (L := [a.D, b.D, c.D]) (s2 := .no) (k := k) oa ob e1 rfl
  cases hg : goodB a b c [a, b, c] with
  | true =>
    rw [hg, if_pos rfl] at w
    have p3 : jwB [.val (.lst [a.D, b.D, c.D]), .val (.int 3), .no] k = _ := jw_go rfl w eq_nil1 (fun _ _ z => by cases z)
    rw [seq_nx (f.trans (for_nx rfl p1 (for_nx rfl p2 (for_nx rfl p3 rfl))))]
    exact jw_way w
  | false =>
    rw [hg] at w
    have p3 : jwB [.val (.lst [a.D, b.D, c.D]), .val (.int 3), .no] k = some (.ret (noD 3), k) := jw_no rfl w rfl
    exact seq_ret (f.trans (for_nx rfl p1 (for_nx rfl p2 (for_ret rfl p3))))
theorem judge4 (oa : a.Ok) (ob : b.Ok) (oc : c.Ok) (od : d.Ok) (h1 : a.n < b.n) (h2 : b.n < c.n) (h3 : c.n < d.n) (e1 : (a.p.cr b.p).nz) (e2 : (a.p.cr c.p).nz) (k : Nat) : F_judge_way [.lst [a.D, b.D, c.D, d.D]] k = F_judge_way [.lst [a.D, b.D, c.D, d.D]] k ∧
    (goodB a b c [a, b, c] = false → F_judge_way [.lst [a.D, b.D, c.D, d.D]] k = some (noD 3, k)) ∧
    (goodB a b c [a, b, c] = true → (a.p.cr d.p).nz → F_judge_way [.lst [a.D, b.D, c.D, d.D]] k = some (if goodB a b d [a, b, c, d] then wayD (by3 a b d) else noD 4, k)) := by
  have w := ways3 oa ob oc h1 h2 e2 k
  have hd : ∀ r, (sSeq (sFor (dRng (dCons (dC (.int 1)) (dCons (dBin D.add (dBi bLen (dCons (dV 0) (dNil))) (dC (.int 1))) dNil))) (tgName 1) jwB) (sSeq (sAsg (dCall 1 F_ways_by (dCons (dV 0) (dNil))) (tgName 2)) (sSeq (sRet (dIf (dEqB eqT false (dBi bLen (dCons (dV 2) (dNil))) (dC (.int 1))) (dMake .Way 2 FI_Way (dCons (dBin D.ix (dBin D.ix (dV 2) (dC (.int 0))) (dC (.int 0))) (dCons (dBin D.ix (dBin D.ix (dV 2) (dC (.int 0))) (dC (.int 1))) (dNil)))) (dMake .Ways 2 FI_Ways (dCons (dBin D.ix (dV 2) (dC (.int 0))) (dCons (dBin D.ix (dV 2) (dC (.int 1))) (dNil)))))) (sNext)))) [.val (.lst [a.D, b.D, c.D, d.D]), .no, .no] k = some (.ret r, k) → F_judge_way [.lst [a.D, b.D, c.D, d.D]] k = some (r, k) := fun r h => by
    refine runB_ret ?_
    show S_judge_way [.val (.lst [a.D, b.D, c.D, d.D]), .no, .no] k = _
    rw [jw_eq, seq_nx (drop_ok (c1_ok rfl (check_sightings_ok (rows := [a, b, c, d]) (by simp) ⟨by have := oa.l; omega, oa, by omega, ob, by omega, oc, by omega, od, trivial⟩)))]
    exact h
  have f : sFor (dRng (dCons (dC (.int 1)) (dCons (dBin D.add (dBi bLen (dCons (dV 0) (dNil))) (dC (.int 1))) dNil))) (tgName 1) jwB [.val (.lst [a.D, b.D, c.D, d.D]), .no, .no] k = forLoop (tgName 1) jwB [.int 1, .int 2, .int 3, .int 4] [.val (.lst [a.D, b.D, c.D, d.D]), .no, .no] k := for_ok (rng_up3 (n := 4) (by decide) rfl rfl)
  have p1 := go1 (a := a) (L := [a.D, b.D, c.D, d.D]) (s2 := .no) (k := k) oa rfl
  have p2 := go2 (a := a) (b := b) (L := [a.D, b.D, c.D, d.D]) (s2 := .no) (k := k) oa ob e1 rfl
  refine ⟨rfl, fun hg => ?_, fun hg e3 => ?_⟩
  · rw [hg] at w
    have p3 : jwB [.val (.lst [a.D, b.D, c.D, d.D]), .val (.int 3), .no] k = some (.ret (noD 3), k) := jw_no rfl w rfl
    exact hd _ (seq_ret (f.trans (for_nx rfl p1 (for_nx rfl p2 (for_ret rfl p3)))))
  · rw [hg, if_pos rfl] at w
    have p3 : jwB [.val (.lst [a.D, b.D, c.D, d.D]), .val (.int 3), .no] k = _ := jw_go rfl w eq_nil1 (fun _ _ z => by cases z)
    have w4 := ways4 oa ob oc od h1 h2 h3 e3 k
    cases hg4 : goodB a b d [a, b, c, d] with
    | true =>
      rw [hg4, if_pos rfl] at w4
      have p4 : jwB [.val (.lst [a.D, b.D, c.D, d.D]), .val (.int 4), .no] k = _ := jw_go rfl w4 eq_nil1 (fun _ _ z => by cases z)
      refine hd _ ?_
      rw [seq_nx (f.trans (for_nx rfl p1 (for_nx rfl p2 (for_nx rfl p3 (for_nx rfl p4 rfl)))))]
      exact jw_way w4
    | false =>
      rw [hg4] at w4
      have p4 : jwB [.val (.lst [a.D, b.D, c.D, d.D]), .val (.int 4), .no] k = some (.ret (noD 4), k) := jw_no rfl w4 rfl
      exact hd _ (seq_ret (f.trans (for_nx rfl p1 (for_nx rfl p2 (for_nx rfl p3 (for_ret rfl p4))))))
end
-- ### what is seen 
theorem row_iff {w : Wy} {r : Rw} (o : r.Ok) : rowB w r = true ↔ Dir (w.at r.n) r.p := by
  unfold rowB
  rw [Bool.and_eq_true_iff, decide_eq_true_iff, decide_eq_true_iff]
  constructor
  · rintro ⟨z, e⟩
    exact (lst_dir z).trans (by rw [e]; exact Dir.refl _)
  · intro h
    have z := h.nz (prim_nz o.p)
    exact ⟨z, (((lst_dir z).symm).trans h).prim (lst_prim z) o.p⟩
theorem at_zero {w : Wy} (hs : w.s.x = 0 ∧ w.s.y = 0 ∧ w.s.z = 0) (hd : w.d.x = 0 ∧ w.d.y = 0 ∧ w.d.z = 0) (n : Int) : (w.at n).x = 0 ∧ (w.at n).y = 0 ∧ (w.at n).z = 0 := by
  unfold Wy.at
  exact ⟨by rw [hs.1, hd.1, Int.mul_zero]; rfl, by rw [hs.2.1, hd.2.1, Int.mul_zero]; rfl, by rw [hs.2.2, hd.2.2, Int.mul_zero]; rfl⟩
theorem by3_sees {a m c : Rw} (oa : a.Ok) (om : m.Ok) (oc : c.Ok) (h1 : a.n < m.n) (h2 : m.n < c.n) (h : Btw a.p m.p c.p) : PrimW (by3 a m c) ∧ Dir ((by3 a m c).at a.n) a.p ∧ Dir ((by3 a m c).at m.n) m.p ∧ Dir ((by3 a m c).at c.n) c.p := by
  obtain ⟨d1, d2, d3⟩ := by_three h1 h2 h
  have ls := low_sm (Wy.by a.p c.p a.n c.n (nearOf a m c) (farOf a m c))
  have lp := lowG_pos (Wy.by a.p c.p a.n c.n (nearOf a m c) (farOf a m c))
  have key : ∀ n : Int, Dir ((by3 a m c).at n) ((Wy.by a.p c.p a.n c.n (nearOf a m c) (farOf a m c)).at n) := fun n => by
    have : (Wy.by a.p c.p a.n c.n (nearOf a m c) (farOf a m c)).at n = Ve.sm (Wy.by a.p c.p a.n c.n (nearOf a m c) (farOf a m c)).lowG ((by3 a m c).at n) := by
      conv => lhs; rw [ls]
      exact at_sm _ _ _
    rw [this]
    exact (Dir.sm _ lp).symm
  refine ⟨low_prim (g6_ne ?_), (key _).trans d1, (key _).trans d2, (key _).trans d3⟩
  by_cases zs : (Wy.by a.p c.p a.n c.n (nearOf a m c) (farOf a m c)).s.nz
  · exact .inl zs
  · right
    intro zd
    have zs' := Classical.not_not.mp zs
    have := d1.nz (prim_nz oa.p)
    exact this (at_zero zs' zd a.n)
theorem dir_cr {u v p q : Ve} (h1 : Dir u p) (h2 : Dir v q) (h : (p.cr q).nz) : (u.cr v).nz := by
  obtain ⟨a, b, ha, hb, e1⟩ := h1
  obtain ⟨c, d, hc, hd, e2⟩ := h2
  rw [← sm_nz (show a * c ≠ 0 from Int.ne_of_gt (Int.mul_pos ha hc)), ← cr_sm, e1, e2, cr_sm, sm_nz (Int.ne_of_gt (Int.mul_pos hb hd))]
  exact h
theorem good3 {a m c : Rw} (oa : a.Ok) (om : m.Ok) (oc : c.Ok) (h1 : a.n < m.n) (h2 : m.n < c.n) (h : Btw a.p m.p c.p) : goodB a m c [a, m, c] = true := by
  obtain ⟨_, d1, d2, d3⟩ := by3_sees oa om oc h1 h2 h
  unfold goodB seenB
  simp only [List.all_cons, List.all_nil, (row_iff oa).mpr d1, (row_iff om).mpr d2, (row_iff oc).mpr d3]
  rw [decide_eq_true h, decide_eq_true (dir_cr d1 d3 h.1)]
  rfl
/-- a way that sees three of which the middle one lies between is told by them -/
theorem by3_is {a m c : Rw} {w : Wy} (oa : a.Ok) (om : m.Ok) (oc : c.Ok) (h1 : a.n < m.n) (h2 : m.n < c.n) (h : Btw a.p m.p c.p) (hw : PrimW w) (d1 : Dir (w.at a.n) a.p) (d2 : Dir (w.at m.n) m.p) (d3 : Dir (w.at c.n) c.p) : by3 a m c = w := by
  obtain ⟨p, e1, e2, e3⟩ := by3_sees oa om oc h1 h2 h
  exact uniq h1 h2 p hw (dir_cr e1 e3 h.1) (e1.trans d1.symm) (e2.trans d2.symm) (e3.trans d3.symm)
end Sky

end
section
namespace Sky
open PySem PySem.Spec PyProof.Rows L2
-- ### ways alike 
theorem eq_wy {w v : Wy} : cEqP (.tup [w.s.D, w.d.D]) (.tup [v.s.D, v.d.D]) = some (decide (w = v)) := by
  obtain ⟨⟨a, b, c⟩, ⟨d, e, f⟩⟩ := w
  obtain ⟨⟨a', b', c'⟩, ⟨d', e', f'⟩⟩ := v
  unfold cEqP
  simp [D.py, D.pys, SeqAt.shaped, PyData.canLay0, PyData.canLayAll0, PyData.depth, PyData.depthAll, PyData.eqv, PyData.eqvAll]
  rw [Bool.eq_iff_iff]; simp [and_assoc]
theorem way_eq_spec {w v : Wy} {k : Nat} : F_Way___eq__ [wayD w, wayD v] k = some (.bl (decide (w = v)), k) := by
  refine runB_ret ?_
  show S_Way___eq__ [.val (wayD w), .val (wayD v)] k = _
  unfold S_Way___eq__
  refine seq_ret (ret_ok ?_)
  have e0 : dIsi (.own .Way) (dV 1) [.val (wayD w), .val (wayD v)] k = some (.bl true, k) := rfl
  have t1 : dTup (dCons (dFld "start" (dV 0)) (dCons (dFld "step" (dV 0)) (dNil))) [.val (wayD w), .val (wayD v)] k = some (.tup [w.s.D, w.d.D], k) := tup2_ok (un_ok rfl rfl) (un_ok rfl rfl)
  have t2 : dTup (dCons (dFld "start" (dV 1)) (dCons (dFld "step" (dV 1)) (dNil))) [.val (wayD w), .val (wayD v)] k = some (.tup [v.s.D, v.d.D], k) := tup2_ok (un_ok rfl rfl) (un_ok rfl rfl)
  have d : dEqD eq0 false (.tup [w.s.D, w.d.D]) (.tup [v.s.D, v.d.D]) = M.lift (((cEqP (.tup [w.s.D, w.d.D]) (.tup [v.s.D, v.d.D])).map (xor false)).map D.bl) := rfl
  have e1 : dEq eq0 false (dTup (dCons (dFld "start" (dV 0)) (dCons (dFld "step" (dV 0)) (dNil)))) (dTup (dCons (dFld "start" (dV 1)) (dCons (dFld "step" (dV 1)) (dNil)))) [.val (wayD w), .val (wayD v)] k = some (.bl (decide (w = v)), k) := by
    simp only [dEq, M.bind, t1, t2, d, eq_wy, Option.map, M.lift, Bool.false_xor]
  simp only [dAndV, M.bind, e0, D.tru, M.lift, e1]
theorem way_eqB {f g : Sem} {neg : Bool} {ρ : Env} {k k1 k2 : Nat} {w v : Wy} (h : f ρ k = some (wayD w, k1)) (h1 : g ρ k1 = some (wayD v, k2)) : dEqB eqT neg f g ρ k = some (xor neg (decide (w = v)), k2) ∧ dEq eqT neg f g ρ k = some (.bl (xor neg (decide (w = v))), k2) := by
  have e := way_eq_spec (w := w) (v := v) (k := k2)
  have : dEqD eqT neg (wayD w) (wayD v) k2 = some (.bl (xor neg (decide (w = v))), k2) := by
    unfold wayD at e ⊢
    simp only [dEqD, eqT, e, D.kl, M.bind, M.pure]
  exact ⟨by simp only [dEqB, dEq, M.bind, h, h1, this, M.pure], by simp only [dEq, M.bind, h, h1, this]⟩
theorem veV {f g : Sem} {neg : Bool} {ρ : Env} {k k1 k2 : Nat} {p q : Ve} (h : f ρ k = some (p.D, k1)) (h1 : g ρ k1 = some (q.D, k2)) : dEq eqT neg f g ρ k = some (.bl (xor neg (decide (p = q))), k2) := by
  have : dEqD eqT neg p.D q.D = M.lift (((cEqP p.D q.D).map (xor neg)).map D.bl) := rfl
  simp only [dEq, M.bind, h, h1, this, eq_ve, Option.map, M.lift]
theorem blB {f g : Sem} {neg : Bool} {ρ : Env} {k k1 k2 : Nat} {a b : Bool} (h : f ρ k = some (.bl a, k1)) (h1 : g ρ k1 = some (.bl b, k2)) : dEqB eqT neg f g ρ k = some (xor neg (a == b), k2) :=
  eqB_ok (fun _ _ z => by cases z) h h1 (by cases a <;> cases b <;> decide +kernel)
end Sky

end
section
namespace Sky
open PySem PySem.Spec PyProof.Rows L2
theorem circle_ok {w : Wy} {b k : Nat} (hb : w.Bd b) (hn : b < 2000) : F_circle_of [w.D] k = some (if (w.s.cr w.d).nz then (w.s.cr w.d).lst.D else .non, k) := by
  have c1 : F_cross [w.s.D, w.d.D] k = some ((w.s.cr w.d).D, k) := crossB hb.1 hb.2 (by omega)
  have bc : (w.s.cr w.d).Bd (b + b + 1) := hb.1.cross hb.2
  refine runB_ret ?_
  show S_circle_of [.val w.D, .no] k = _
  unfold S_circle_of
  have e : sAsg (dCall 2 F_cross (dCons (dBin D.ix (dV 0) (dC (.int 0))) (dCons (dBin D.ix (dV 0) (dC (.int 1))) (dNil)))) (tgName 1) [.val w.D, .no] k = some (.nx [.val w.D, .val (w.s.cr w.d).D], k) := asg_ok (c2_ok (bin_ok rfl rfl rfl) (bin_ok rfl rfl rfl) c1)
  rw [seq_nx (drop_ok (c1_ok rfl check_way_ok)), seq_nx e]
  refine seq_ret (ret_ok ?_)
  have t1 := eq_ve0 (f := dV 1) (ρ := [.val w.D, .val (w.s.cr w.d).D]) (k := k) (k1 := k) (p := w.s.cr w.d) rfl
  by_cases z : (w.s.cr w.d).nz
  · rw [decide_eq_false z] at t1
    rw [if_f t1, if_pos z]
    exact c1_ok rfl (lst_ok z bc (by omega))
  · rw [decide_eq_true (Classical.not_not.mp z)] at t1
    rw [if_t t1, if_neg z]
    rfl
section
variable {ns : List Int}
theorem row_draw (hn : ns.length ≤ 63) {k : Nat} {s1 s2 s3 : Slot} {m t : Int} (hm : 0 < m) (b : Nat) (ht : ∀ v : Int, 0 ≤ v → v < m → Sky.Bd b (v - t)) : ∃ (p : Ve) (k' : Nat), p.Bd b ∧ dBi bTup (dCons (dLc [3] (dRng (dCons (dC (.int 3)) dNil)) (tgName 3) (dTrue) (dBin D.sub (dCall 2 (F__law_take ns) (dCons (dV 0) (dCons (dC (.int m)) (dNil)))) (dC (.int t)))) (dNil)) [.val .drw, s1, s2, s3] k = some (p.D, k') := by
  obtain ⟨v0, a0, b0, h0⟩ := take_spec hn (m := m) (k := k) hm
  obtain ⟨v1, a1, b1, h1⟩ := take_spec hn (m := m) (k := k + 1) hm
  obtain ⟨v2, a2, b2, h2⟩ := take_spec hn (m := m) (k := k + 1 + 1) hm
  refine ⟨⟨v0 - t, v1 - t, v2 - t⟩, k + 1 + 1 + 1, ⟨ht _ a0 b0, ht _ a1 b1, ht _ a2 b2⟩, ?_⟩
  have st : ∀ (v : Int) (k : Nat) (d : D), F__law_take ns [.drw, .int m] k = some (.int v, k + 1) → (dBin D.sub (dCall 2 (F__law_take ns) (dCons (dV 0) (dCons (dC (.int m)) (dNil)))) (dC (.int t))) ((wipeE [.val .drw, s1, s2, s3] [3]).set 3 (.val d)) k = some (.int (v - t), k + 1) := fun v k d h =>
    bin_ok (c2_ok (F := F__law_take ns) rfl rfl h) rfl rfl
  exact bi_ok (cons1_ok (lc_ok (k1 := k) (ds := rangeD 0 3) rfl (lc_put (st _ _ _ h0) (lc_put (st _ _ _ h1) (lc_put (st _ _ _ h2) lc_nil))) rfl)) rfl
theorem law_way_ok (hn : ns.length ≤ 63) {k : Nat} : ∃ (w : Wy) (k' : Nat), w.s.Bd 3 ∧ w.d.Bd 2 ∧ F__law_way ns [.drw] k = some (w.D, k') := by
  obtain ⟨s, k1, bs, e1⟩ := row_draw hn (k := k) (s1 := .no) (s2 := .no) (s3 := .no) (m := 9) (t := 4) (by decide) 3 (fun v h0 h1 => bd_of 4 (by omega) (by decide))
  obtain ⟨d, k2, bd, e2⟩ := row_draw hn (k := k1) (s1 := .val s.D) (s2 := .no) (s3 := .no) (m := 5) (t := 2) (by decide) 2 (fun v h0 h1 => bd_of 2 (by omega) (by decide))
  refine ⟨⟨s, d⟩, k2, bs, bd, runB_ret ?_⟩
  show S__law_way ns [.val .drw, .no, .no, .no] k = _
  unfold S__law_way
  have a1 : sAsg (dBi bTup (dCons (dLc [3] (dRng (dCons (dC (.int 3)) dNil)) (tgName 3) (dTrue) (dBin D.sub (dCall 2 (F__law_take ns) (dCons (dV 0) (dCons (dC (.int 9)) (dNil)))) (dC (.int 4)))) (dNil))) (tgName 1) [.val .drw, .no, .no, .no] k = some (.nx [.val .drw, .val s.D, .no, .no], k1) := asg_ok e1
  have a2 : sAsg (dBi bTup (dCons (dLc [3] (dRng (dCons (dC (.int 3)) dNil)) (tgName 3) (dTrue) (dBin D.sub (dCall 2 (F__law_take ns) (dCons (dV 0) (dCons (dC (.int 5)) (dNil)))) (dC (.int 2)))) (dNil))) (tgName 2) [.val .drw, .val s.D, .no, .no] k1 = some (.nx [.val .drw, .val s.D, .val d.D, .no], k2) := asg_ok e2
  rw [seq_nx a1, seq_nx a2]
  rfl
end
theorem at_bd6 {w : Wy} {n : Int} (hs : w.s.Bd 3) (hd : w.d.Bd 2) (h0 : 0 ≤ n) (h1 : n ≤ 11) : (w.at n).Bd 6 := by
  have key : ∀ s d : Int, Sky.Bd 3 s → Sky.Bd 2 d → Sky.Bd 6 (s + n * d) := fun s d a b => by
    have a' : s.natAbs < 8 := a
    have b' : d.natAbs < 4 := b
    have c : (n * d).natAbs ≤ 11 * 3 := by rw [Int.natAbs_mul]; exact Nat.mul_le_mul (by omega) (by omega)
    exact bd_of 40 (by omega) (by decide)
  exact ⟨key _ _ hs.a hd.a, key _ _ hs.b hd.b, key _ _ hs.c hd.c⟩
end Sky

end
section
namespace Sky
open PySem PySem.Spec PyProof.Rows L2
theorem par_flat {N u x : Ve} (h : N.dot u = 0) (hu : u.nz) (hz : ¬ (u.cr x).nz) : N.dot x = 0 := by
  have z := Classical.not_not.mp hz
  have e : N.dot ((u.cr x).cr u) = u.dot u * N.dot x - x.dot u * N.dot u := by simp only [Ve.dot, Ve.cr]; grind
  have e0 : N.dot ((u.cr x).cr u) = 0 := by
    generalize u.cr x = v at *
    simp only [Ve.dot, Ve.cr, z.1, z.2.1, z.2.2]
    simp
  rw [e0, h, Int.mul_zero, Int.sub_zero] at e
  have d := Ve.dot_pos hu
  exact (Int.mul_eq_zero.mp e.symm).resolve_left (by omega)
theorem up_row {w : Wy} {a b : Rw} (l : a.n < b.n) (da : Dir (w.at a.n) a.p) (db : Dir (w.at b.n) b.p) : Up (w.s.cr w.d) a.p b.p := (up_at l).dir da db
theorem up_flat0 {N u v x : Ve} (h : Up N u v) (hx : N.dot x ≠ 0) : (u.cr v).dot x ≠ 0 := fun z => by
  obtain ⟨e, c, he, hc, h⟩ := h
  have e1 : c * N.dot x = 0 := by rw [← dot_sml, ← h, dot_sml, z, Int.mul_zero]
  exact hx ((Int.mul_eq_zero.mp e1).resolve_left (by omega))
theorem judge_yes {w : Wy} {a b c : Rw} (pw : PrimW w) (nz : (w.s.cr w.d).nz) (oa : a.Ok) (ob : b.Ok) (oc : c.Ok) (h1 : a.n < b.n) (h2 : b.n < c.n) (da : Dir (w.at a.n) a.p) (db : Dir (w.at b.n) b.p) (dc : Dir (w.at c.n) c.p) (k : Nat) :
    F_judge_way [.lst [a.D, b.D, c.D]] k = some (wayD w, k) := by
  have u1 := up_row h1 da db
  have u2 := up_row h2 db dc
  have u3 := up_row (Int.lt_trans h1 h2) da dc
  have bt := btw_up nz u1 u2 u3
  rw [judge3 oa ob oc h1 h2 (u1.nz nz) (u3.nz nz) k, good3 oa ob oc h1 h2 bt, by3_is oa ob oc h1 h2 bt pw da db dc]
  rfl
end Sky

end
section
namespace Sky
open PySem PySem.Spec PyProof.Rows L2
def waysD (w v : Wy) : D := .ins .Ways [w.D, v.D]
theorem jw_ways {L : D} {w v : Wy} {s1 : Slot} {k : Nat} (h : F_ways_by [L] k = some (.tup [w.D, v.D], k)) : (sSeq (sAsg (dCall 1 F_ways_by (dCons (dV 0) (dNil))) (tgName 2)) (sSeq (sRet (dIf (dEqB eqT false (dBi bLen (dCons (dV 2) (dNil))) (dC (.int 1))) (dMake .Way 2 FI_Way (dCons (dBin D.ix (dBin D.ix (dV 2) (dC (.int 0))) (dC (.int 0))) (dCons (dBin D.ix (dBin D.ix (dV 2) (dC (.int 0))) (dC (.int 1))) (dNil)))) (dMake .Ways 2 FI_Ways (dCons (dBin D.ix (dV 2) (dC (.int 0))) (dCons (dBin D.ix (dV 2) (dC (.int 1))) (dNil)))))) (sNext))) [.val L, s1, .no] k = some (.ret (waysD w v), k) := by
  have e : sAsg (dCall 1 F_ways_by (dCons (dV 0) (dNil))) (tgName 2) [.val L, s1, .no] k = some (.nx [.val L, s1, .val (.tup [w.D, v.D])], k) := asg_ok (c1_ok rfl h)
  rw [seq_nx e]
  have t : dEqB eqT false (dBi bLen (dCons (dV 2) (dNil))) (dC (.int 1)) [.val L, s1, .val (.tup [w.D, v.D])] k = some (false, k) := (eqB_ok (neg := false) (d := .int 2) (e := .int 1) (k2 := k) (fun _ _ z => by cases z) (bi_ok (cons1_ok rfl) rfl) rfl eq_int).trans rfl
  refine seq_ret (ret_ok ?_)
  rw [if_f t]
  exact make_ok (c := .Ways) (cons2_ok (bin_ok rfl rfl rfl) (bin_ok rfl rfl rfl)) rfl rfl rfl
end Sky

end
section
namespace Sky
open PySem PySem.Spec PyProof.Rows L2
theorem along {A C : Ve} (hA : A.nz) (z : ¬ (A.cr C).nz) (h : 0 < A.dot C) : Ve.sm (A.dot A) C = Ve.sm (A.dot C) A := by
  have z' := Classical.not_not.mp z
  have e : Ve.sm (A.dot A) C = (Ve.sm (A.dot C) A).add ((A.cr C).cr A) := by
    simp only [Ve.sm, Ve.add, Ve.dot, Ve.cr, Ve.mk.injEq]; refine ⟨?_, ?_, ?_⟩ <;> grind
  have e2 : (A.cr C).cr A = ⟨0, 0, 0⟩ := by
    generalize A.cr C = v at *
    simp only [Ve.cr, z'.1, z'.2.1, z'.2.2, Ve.mk.injEq]
    refine ⟨?_, ?_, ?_⟩ <;> simp
  rw [e, e2]
  simp [Ve.add]
theorem low_at (w : Wy) (n : Int) : Dir (w.low.at n) (w.at n) := by
  have e : w.at n = Ve.sm w.lowG (w.low.at n) := by
    conv => lhs; rw [low_sm w]
    exact at_sm _ _ _
  rw [e]
  exact (Dir.sm _ (lowG_pos w)).symm
theorem not_nz {v : Ve} (h : ¬ v.nz) : v = ⟨0, 0, 0⟩ := by
  have z := Classical.not_not.mp h
  exact ve_ext z.1 z.2.1 z.2.2
/-- what a way that sees three tells of them -/
theorem seen_cases {w : Wy} {a b c : Rw} (oa : a.Ok) (ob : b.Ok) (oc : c.Ok) (h1 : a.n < b.n) (h2 : b.n < c.n) (h : seenB w [a, b, c] a.n c.n = true) :
    ((a.p.cr b.p).nz ∧ (a.p.cr c.p).nz ∧ Btw a.p b.p c.p ∧ by3 a b c = w.low) ∨ (a.p = b.p ∧ a.p = c.p) := by
  unfold seenB at h
  simp only [List.all_cons, List.all_nil, Bool.and_eq_true, Bool.or_eq_true, decide_eq_true_iff] at h
  obtain ⟨⟨qa, qb, qc, _⟩, hl⟩ := h
  have da := (row_iff oa).mp qa
  have db := (row_iff ob).mp qb
  have dc := (row_iff oc).mp qc
  by_cases nz : ((w.at a.n).cr (w.at c.n)).nz
  · left
    have nN : (w.s.cr w.d).nz := by
      rw [at_cr] at nz
      exact (sm_nz (by omega)).mp nz
    have u1 := up_row h1 da db
    have u2 := up_row h2 db dc
    have u3 := up_row (Int.lt_trans h1 h2) da dc
    have bt := btw_up nN u1 u2 u3
    have pw : PrimW w.low := low_prim (g6_ne (.inl (cr_nz_l nN)))
    exact ⟨u1.nz nN, u3.nz nN, bt, by3_is oa ob oc h1 h2 bt pw ((low_at w _).trans da) ((low_at w _).trans db) ((low_at w _).trans dc)⟩
  · right
    have hp : 0 < (w.at a.n).dot (w.at c.n) := hl.resolve_left nz
    have za := da.nz (prim_nz oa.p)
    have al := along za nz hp
    have pA := Ve.dot_pos za
    have dAC : Dir (w.at c.n) (w.at a.n) := ⟨_, _, pA, hp, al⟩
    have dAB : Dir (w.at b.n) (w.at a.n) := by
      refine ⟨(w.at a.n).dot (w.at a.n) * (c.n - a.n), (w.at a.n).dot (w.at a.n) * (c.n - b.n) + (b.n - a.n) * (w.at a.n).dot (w.at c.n), Int.mul_pos pA (by omega), ?_, ?_⟩
      · have := Int.mul_pos pA (show 0 < c.n - b.n by omega)
        have := Int.mul_pos (show 0 < b.n - a.n by omega) hp
        omega
      · rw [← sm_sm, ← at_mid w a.n b.n c.n, sm_comb, ← comb_one]
        generalize (w.at a.n).dot (w.at a.n) = s at *
        generalize (w.at a.n).dot (w.at c.n) = t at *
        generalize w.at a.n = A at *
        generalize w.at c.n = C at *
        have e1 : comb (s * (c.n - b.n)) (s * (b.n - a.n)) A C = comb (s * (c.n - b.n)) (b.n - a.n) A (Ve.sm s C) := by
          simp only [comb, Ve.sm, Ve.mk.injEq]; refine ⟨?_, ?_, ?_⟩ <;> grind
        rw [e1, al]
        simp only [comb, Ve.sm, Ve.mk.injEq]; refine ⟨?_, ?_, ?_⟩ <;> grind
    exact ⟨(((da.symm.trans dAB.symm).trans db).prim oa.p ob.p), (((da.symm.trans dAC.symm).trans dc).prim oa.p oc.p)⟩
section
variable {a b c : Rw} {L : List D} {s2 : Slot} {k : Nat} {rows : List Rw}
theorem ways_line (ha : a.Ok) (hc : c.Ok) (hx : D.ix (.lst (rows.map Rw.D)) (.int 0) = some a.D) (hy : D.ix (.lst (rows.map Rw.D)) (.int (-1)) = some c.D) (ne : a.p ≠ c.p) (e : ¬ (a.p.cr c.p).nz) : F_ways_by [.lst (rows.map Rw.D)] k = some (.tup [], k) := by
  refine runB_ret ?_
  show S_ways_by [.val (.lst (rows.map Rw.D)), .no, .no, .no, .no, .no, .no, .no] k = _
  rw [wb_eq]
  obtain ⟨p1, t⟩ := wb_head (k := k) ha hc hx hy
  rw [decide_eq_false ne] at t
  rw [seq_nx p1, seq_nx ((sif_f t).trans rfl)]
  have li : F_is_on_line [a.p.D, c.p.D] k = some (.bl (decide ((a.p.cr c.p).x = 0 ∧ (a.p.cr c.p).y = 0 ∧ (a.p.cr c.p).z = 0)), k) := lineB (k := k) ha.b hc.b (by decide)
  rw [decide_eq_true (Classical.not_not.mp e)] at li
  unfold wb2
  exact seq_ret ((sif_t (tru_ok (c2_ok (bin_ok rfl rfl rfl) (bin_ok rfl rfl rfl) li))).trans rfl)
theorem ord2 (oa : a.Ok) (ob : b.Ok) (h1 : a.n < b.n) : Ord (-1) [a, b] := ⟨by have := oa.l; omega, oa, by omega, ob, trivial⟩
theorem ord3 (oa : a.Ok) (ob : b.Ok) (oc : c.Ok) (h1 : a.n < b.n) (h2 : b.n < c.n) : Ord (-1) [a, b, c] := ⟨by have := oa.l; omega, oa, by omega, ob, by omega, oc, trivial⟩
theorem all2 {P : Rw → Prop} (h1 : P a) (h2 : P b) : ∀ r ∈ [a, b], P r := fun r hr => by
  rcases List.mem_cons.mp hr with z | hr
  · rw [z]; exact h1
  · rw [List.mem_singleton.mp hr]; exact h2
theorem all3 {P : Rw → Prop} (h1 : P a) (h2 : P b) (h3 : P c) : ∀ r ∈ [a, b, c], P r := fun r hr => by
  rcases List.mem_cons.mp hr with z | hr
  · rw [z]; exact h1
  · exact all2 h2 h3 r hr
theorem row_still {p : Ve} {r : Rw} (hp : Prim p) : rowB (still p) r = decide (p = r.p) := by
  unfold rowB
  rw [still_at, decide_eq_true (prim_nz hp), Bool.true_and, prim_lst hp]
theorem seen_still {p : Ve} {m n : Int} (hp : Prim p) : seenB (still p) rows m n = rows.all fun r => decide (p = r.p) := by
  unfold seenB
  rw [still_at, still_at, decide_eq_true (Ve.dot_pos (prim_nz hp)), Bool.or_true, Bool.and_true]
  congr 1
  funext r
  exact row_still hp
end
def Res (rows : List Rw) (m n : Int) (y : D) : Prop := (y = .tup [] ∧ ∀ w, seenB w rows m n = false) ∨ (∃ u v : Wy, y = .tup [u.D, v.D] ∧ ∃ w, seenB w rows m n = true) ∨ (∃ u : Wy, y = .tup [u.D] ∧ seenB u rows m n = true ∧ ∀ w, seenB w rows m n = true → u = w.low)
section
variable {a b c d : Rw}
theorem none_of {rows : List Rw} {m n : Int} (h : ∀ w, seenB w rows m n = true → False) : ∀ w, seenB w rows m n = false := fun w => by
  rcases q : seenB w rows m n with _ | _
  · rfl
  · exact (h w q).elim
theorem seen2_cases {w : Wy} (oa : a.Ok) (ob : b.Ok) (h : seenB w [a, b] a.n b.n = true) : (a.p.cr b.p).nz ∨ a.p = b.p := by
  unfold seenB at h
  simp only [List.all_cons, List.all_nil, Bool.and_eq_true, Bool.or_eq_true, decide_eq_true_iff] at h
  obtain ⟨⟨qa, qb, _⟩, hl⟩ := h
  have da := (row_iff oa).mp qa
  have db := (row_iff ob).mp qb
  by_cases nz : ((w.at a.n).cr (w.at b.n)).nz
  · exact .inl (dir_cr da.symm db.symm nz)
  · right
    have hp := hl.resolve_left nz
    have za := da.nz (prim_nz oa.p)
    have pA := Ve.dot_pos za
    have dAB : Dir (w.at b.n) (w.at a.n) := ⟨_, _, pA, hp, along za nz hp⟩
    exact ((da.symm.trans dAB.symm).trans db).prim oa.p ob.p
theorem wyI_seen {t : Int} (oa : a.Ok) (ob : b.Ok) (h : a.n < b.n) (ht : 0 < t) (e : (a.p.cr b.p).nz) : seenB (wyI a b t) [a, b] a.n b.n = true := by
  have da : Dir ((wyI a b t).at a.n) a.p := by
    refine (low_at _ _).trans ?_
    rw [by_near]
    exact Dir.sm _ (by omega)
  have db : Dir ((wyI a b t).at b.n) b.p := by
    refine (low_at _ _).trans ?_
    rw [by_far]
    exact Dir.sm _ (Int.mul_pos (by omega) ht)
  unfold seenB
  simp only [List.all_cons, List.all_nil, (row_iff oa).mpr da, (row_iff ob).mpr db]
  rw [decide_eq_true (dir_cr da db e)]
  rfl
theorem ways2_res (oa : a.Ok) (ob : b.Ok) (h : a.n < b.n) : ∃ y, (∀ k, F_ways_by [.lst [a.D, b.D]] k = some (y, k)) ∧ Res [a, b] a.n b.n y := by
  by_cases e : a.p = b.p
  · have s : seenB (still a.p) [a, b] a.n b.n = true := by
      rw [seen_still oa.p]
      simp only [List.all_cons, List.all_nil]
      rw [decide_eq_true e]
      simp
    refine ⟨.tup [(still a.p).D, (⟨a.p, a.p⟩ : Wy).D], fun k => ?_, .inr (.inl ⟨_, _, rfl, _, s⟩)⟩
    have w := ways_alike (rows := [a, b]) (a := a) (c := b) (k := k) (by simp) (ord2 oa ob h) (all2 oa ob) oa ob rfl rfl e
    rw [s] at w
    exact w
  · by_cases z : (a.p.cr b.p).nz
    · exact ⟨_, fun k => ways_two oa ob z, .inr (.inl ⟨_, _, rfl, _, wyI_seen oa ob h (t := 1) (by decide) z⟩)⟩
    · refine ⟨.tup [], fun k => ways_line (rows := [a, b]) oa ob rfl rfl e z, .inl ⟨rfl, none_of fun w q => ?_⟩⟩
      rcases seen2_cases oa ob q with q | q
      · exact z q
      · exact e q
theorem ways3_res (oa : a.Ok) (ob : b.Ok) (oc : c.Ok) (h1 : a.n < b.n) (h2 : b.n < c.n) : ∃ y, (∀ k, F_ways_by [.lst [a.D, b.D, c.D]] k = some (y, k)) ∧ Res [a, b, c] a.n c.n y := by
  by_cases e2 : a.p = c.p
  · have w := fun k => ways_alike (rows := [a, b, c]) (a := a) (c := c) (k := k) (by simp) (ord3 oa ob oc h1 h2) (all3 oa ob oc) oa oc rfl rfl e2
    by_cases e3 : a.p = b.p
    · have s : seenB (still a.p) [a, b, c] a.n c.n = true := by
        rw [seen_still oa.p]
        simp only [List.all_cons, List.all_nil]
        rw [decide_eq_true e3, decide_eq_true e2]
        simp
      rw [s] at w
      exact ⟨_, w, .inr (.inl ⟨_, _, rfl, _, s⟩)⟩
    · have s : seenB (still a.p) [a, b, c] a.n c.n = false := by
        rw [seen_still oa.p]
        simp only [List.all_cons, List.all_nil]
        rw [decide_eq_false e3]
        simp
      rw [s] at w
      refine ⟨_, w, .inl ⟨rfl, none_of fun w h => ?_⟩⟩
      rcases seen_cases oa ob oc h1 h2 h with q | q
      · exact q.2.1 (by rw [e2, cr_self]; exact ⟨rfl, rfl, rfl⟩)
      · exact e3 q.1
  · by_cases e4 : (a.p.cr c.p).nz
    · have w := ways3 oa ob oc h1 h2 e4
      rcases hg : goodB a b c [a, b, c] with _ | _
      · rw [hg] at w
        refine ⟨_, w, .inl ⟨rfl, none_of fun w h => ?_⟩⟩
        rcases seen_cases oa ob oc h1 h2 h with q | q
        · have := good3 oa ob oc h1 h2 q.2.2.1
          rw [hg] at this; cases this
        · exact e2 q.2
      · rw [hg] at w
        refine ⟨_, w, .inr (.inr ⟨_, rfl, ?_, fun w h => ?_⟩)⟩
        · unfold goodB at hg
          exact (Bool.and_eq_true_iff.mp hg).2
        · rcases seen_cases oa ob oc h1 h2 h with q | q
          · exact q.2.2.2
          · exact absurd q.2 e2
    · refine ⟨.tup [], fun k => ways_line (rows := [a, b, c]) oa oc rfl rfl e2 e4, .inl ⟨rfl, none_of fun w h => ?_⟩⟩
      rcases seen_cases oa ob oc h1 h2 h with q | q
      · exact e4 q.2.1
      · exact e2 q.2
end
end Sky

end
section
namespace Sky
open PySem PySem.Spec PyProof.Rows L2
section
variable {a b c d : Rw} {w : Wy}
theorem seen4_of (oa : a.Ok) (ob : b.Ok) (oc : c.Ok) (od : d.Ok) (h : a.n < d.n) (e : (a.p.cr d.p).nz) (hs : seenB w [a, b, c, d] a.n d.n = true) : (w.s.cr w.d).nz ∧ Dir (w.at a.n) a.p ∧ Dir (w.at b.n) b.p ∧ Dir (w.at c.n) c.p ∧ Dir (w.at d.n) d.p := by
  unfold seenB at hs
  simp only [List.all_cons, List.all_nil, Bool.and_eq_true] at hs
  obtain ⟨⟨qa, qb, qc, qd, _⟩, _⟩ := hs
  have da := (row_iff oa).mp qa
  have dd := (row_iff od).mp qd
  have nz := dir_cr da dd e
  rw [at_cr] at nz
  exact ⟨(sm_nz (by omega)).mp nz, da, (row_iff ob).mp qb, (row_iff oc).mp qc, dd⟩
theorem at_crnz {m n : Int} (h : m < n) (nz : (w.s.cr w.d).nz) : ((w.at m).cr (w.at n)).nz := by
  rw [at_cr, sm_nz (by omega)]
  exact nz
theorem seen2_of (oa : a.Ok) (ob : b.Ok) (h : a.n < b.n) (nz : (w.s.cr w.d).nz) (da : Dir (w.at a.n) a.p) (db : Dir (w.at b.n) b.p) : seenB w [a, b] a.n b.n = true := by
  unfold seenB
  simp only [List.all_cons, List.all_nil, (row_iff oa).mpr da, (row_iff ob).mpr db]
  rw [decide_eq_true (at_crnz h nz)]
  rfl
theorem seen3_of (oa : a.Ok) (ob : b.Ok) (oc : c.Ok) (h : a.n < c.n) (nz : (w.s.cr w.d).nz) (da : Dir (w.at a.n) a.p) (db : Dir (w.at b.n) b.p) (dc : Dir (w.at c.n) c.p) : seenB w [a, b, c] a.n c.n = true := by
  unfold seenB
  simp only [List.all_cons, List.all_nil, (row_iff oa).mpr da, (row_iff ob).mpr db, (row_iff oc).mpr dc]
  rw [decide_eq_true (at_crnz h nz)]
  rfl
theorem seen4_to (oa : a.Ok) (ob : b.Ok) (oc : c.Ok) (od : d.Ok) (h : a.n < d.n) (nz : (w.s.cr w.d).nz) (da : Dir (w.at a.n) a.p) (db : Dir (w.at b.n) b.p) (dc : Dir (w.at c.n) c.p) (dd : Dir (w.at d.n) d.p) : seenB w [a, b, c, d] a.n d.n = true := by
  unfold seenB
  simp only [List.all_cons, List.all_nil, (row_iff oa).mpr da, (row_iff ob).mpr db, (row_iff oc).mpr dc, (row_iff od).mpr dd]
  rw [decide_eq_true (at_crnz h nz)]
  rfl
theorem low_cr (nz : (w.s.cr w.d).nz) : (w.low.s.cr w.low.d).nz := by
  have e := at_cr w.low 0 (0 + 1)
  rw [show (0 : Int) + 1 - 0 = 1 by decide, sm_one] at e
  rw [← e]
  refine dir_cr (low_at w 0) (low_at w (0 + 1)) ?_
  rw [at_cr, show (0 : Int) + 1 - 0 = 1 by decide, sm_one]
  exact nz
theorem res_go {L : List D} {k : Nat} {n : Int} {x y : D} {s2 : Slot} {rows : List Rw} {p q : Int} (h1 : dSl (dV 0) (dNoPart) (dPart (dV 1)) [.val (.lst L), .val (.int n), s2] k = some (x, k)) (h2 : F_ways_by [x] k = some (y, k)) (R : Res rows p q y) (w : Wy) (hw : seenB w rows p q = true) : jwB [.val (.lst L), .val (.int n), s2] k = some (.nx [.val (.lst L), .val (.int n), s2], k) := by
  rcases R with ⟨e, h⟩ | ⟨u, v, e, _⟩ | ⟨u, e, _⟩
  · rw [h w] at hw; cases hw
  · subst e; exact jw_go h1 h2 eq_nil2 (fun _ _ z => by cases z)
  · subst e; exact jw_go h1 h2 eq_nil1 (fun _ _ z => by cases z)
theorem res_or {rows : List Rw} {p q : Int} {y : D} (R : Res rows p q y) : (y = .tup [] ∧ ∀ w, seenB w rows p q = false) ∨ (cEqP y (.tup []) = some false ∧ (∀ c fs, y ≠ .ins c fs) ∧ ∃ w, seenB w rows p q = true) := by
  rcases R with h | ⟨u, v, e, w, hw⟩ | ⟨u, e, hw, _⟩
  · exact .inl h
  · subst e; exact .inr ⟨eq_nil2, (fun _ _ z => by cases z), w, hw⟩
  · subst e; exact .inr ⟨eq_nil1, (fun _ _ z => by cases z), u, hw⟩
theorem judge4_res (oa : a.Ok) (ob : b.Ok) (oc : c.Ok) (od : d.Ok) (h1 : a.n < b.n) (h2 : b.n < c.n) (h3 : c.n < d.n) (e : (a.p.cr d.p).nz) : ∃ r, (∀ k, F_judge_way [.lst [a.D, b.D, c.D, d.D]] k = some (r, k)) ∧
    ((∃ i, r = noD i ∧ ∀ w, seenB w [a, b, c, d] a.n d.n = false) ∨ (∃ u, r = wayD u ∧ seenB u [a, b, c, d] a.n d.n = true ∧ ∀ w, seenB w [a, b, c, d] a.n d.n = true → u = w.low)) := by
  have h4 : a.n < d.n := by omega
  have hd : ∀ r k, (sSeq (sFor (dRng (dCons (dC (.int 1)) (dCons (dBin D.add (dBi bLen (dCons (dV 0) (dNil))) (dC (.int 1))) dNil))) (tgName 1) jwB) (sSeq (sAsg (dCall 1 F_ways_by (dCons (dV 0) (dNil))) (tgName 2)) (sSeq (sRet (dIf (dEqB eqT false (dBi bLen (dCons (dV 2) (dNil))) (dC (.int 1))) (dMake .Way 2 FI_Way (dCons (dBin D.ix (dBin D.ix (dV 2) (dC (.int 0))) (dC (.int 0))) (dCons (dBin D.ix (dBin D.ix (dV 2) (dC (.int 0))) (dC (.int 1))) (dNil)))) (dMake .Ways 2 FI_Ways (dCons (dBin D.ix (dV 2) (dC (.int 0))) (dCons (dBin D.ix (dV 2) (dC (.int 1))) (dNil)))))) (sNext)))) [.val (.lst [a.D, b.D, c.D, d.D]), .no, .no] k = some (.ret r, k) → F_judge_way [.lst [a.D, b.D, c.D, d.D]] k = some (r, k) := fun r k h => by
    refine runB_ret ?_
    show S_judge_way [.val (.lst [a.D, b.D, c.D, d.D]), .no, .no] k = _
    rw [jw_eq, seq_nx (drop_ok (c1_ok rfl (check_sightings_ok (rows := [a, b, c, d]) (by simp) ⟨by have := oa.l; omega, oa, by omega, ob, by omega, oc, by omega, od, trivial⟩)))]
    exact h
  have f : ∀ k, sFor (dRng (dCons (dC (.int 1)) (dCons (dBin D.add (dBi bLen (dCons (dV 0) (dNil))) (dC (.int 1))) dNil))) (tgName 1) jwB [.val (.lst [a.D, b.D, c.D, d.D]), .no, .no] k = forLoop (tgName 1) jwB [.int 1, .int 2, .int 3, .int 4] [.val (.lst [a.D, b.D, c.D, d.D]), .no, .no] k := fun k => for_ok (rng_up3 (n := 4) (by decide) rfl rfl)
  have p1 : ∀ k, jwB [.val (.lst [a.D, b.D, c.D, d.D]), .val (.int 1), .no] k = _ := fun k => go1 (a := a) (L := [a.D, b.D, c.D, d.D]) (s2 := .no) (k := k) oa rfl
  obtain ⟨y2, g2, R2⟩ := ways2_res oa ob h1
  obtain ⟨y3, g3, R3⟩ := ways3_res oa ob oc h1 h2
  have w4 := ways4 oa ob oc od h1 h2 h3 e
  rcases res_or R2 with ⟨e2, n2⟩ | ⟨e2, i2, _⟩
  · subst e2
    refine ⟨noD 2, fun k => ?_, .inl ⟨2, rfl, none_of fun w hw => ?_⟩⟩
    · have p2 : jwB [.val (.lst [a.D, b.D, c.D, d.D]), .val (.int 2), .no] k = some (.ret (noD 2), k) := jw_no rfl (g2 k) rfl
      exact hd _ k (seq_ret ((f k).trans (for_nx rfl (p1 k) (for_ret rfl p2))))
    · obtain ⟨nz, da, db, _, _⟩ := seen4_of oa ob oc od h4 e hw
      have := seen2_of oa ob h1 nz da db
      rw [n2 w] at this; cases this
  · have p2 : ∀ k, jwB [.val (.lst [a.D, b.D, c.D, d.D]), .val (.int 2), .no] k = _ := fun k => jw_go rfl (g2 k) e2 i2
    rcases res_or R3 with ⟨e3, n3⟩ | ⟨e3, i3, _⟩
    · subst e3
      refine ⟨noD 3, fun k => ?_, .inl ⟨3, rfl, none_of fun w hw => ?_⟩⟩
      · have p3 : jwB [.val (.lst [a.D, b.D, c.D, d.D]), .val (.int 3), .no] k = some (.ret (noD 3), k) := jw_no rfl (g3 k) rfl
        exact hd _ k (seq_ret ((f k).trans (for_nx rfl (p1 k) (for_nx rfl (p2 k) (for_ret rfl p3)))))
      · obtain ⟨nz, da, db, dc, _⟩ := seen4_of oa ob oc od h4 e hw
        have := seen3_of oa ob oc (by omega) nz da db dc
        rw [n3 w] at this; cases this
    · have p3 : ∀ k, jwB [.val (.lst [a.D, b.D, c.D, d.D]), .val (.int 3), .no] k = _ := fun k => jw_go rfl (g3 k) e3 i3
      have un : ∀ w, seenB w [a, b, c, d] a.n d.n = true → goodB a b d [a, b, c, d] = true ∧ by3 a b d = w.low := fun w hw => by
        obtain ⟨nz, da, db, dc, dd⟩ := seen4_of oa ob oc od h4 e hw
        have u1 := up_row h1 da db
        have u2 := up_row (show b.n < d.n by omega) db dd
        have u3 := up_row h4 da dd
        have bt := btw_up nz u1 u2 u3
        have pw : PrimW w.low := low_prim (g6_ne (.inl (cr_nz_l nz)))
        have q := by3_is oa ob od h1 (by omega) bt pw ((low_at w _).trans da) ((low_at w _).trans db) ((low_at w _).trans dd)
        refine ⟨?_, q⟩
        unfold goodB
        rw [decide_eq_true bt, q, seen4_to oa ob oc od h4 (low_cr nz) ((low_at w _).trans da) ((low_at w _).trans db) ((low_at w _).trans dc) ((low_at w _).trans dd)]
        rfl
      rcases hg : goodB a b d [a, b, c, d] with _ | _
      · rw [hg] at w4
        refine ⟨noD 4, fun k => ?_, .inl ⟨4, rfl, none_of fun w hw => ?_⟩⟩
        · have p4 : jwB [.val (.lst [a.D, b.D, c.D, d.D]), .val (.int 4), .no] k = some (.ret (noD 4), k) := jw_no rfl (w4 k) rfl
          exact hd _ k (seq_ret ((f k).trans (for_nx rfl (p1 k) (for_nx rfl (p2 k) (for_nx rfl (p3 k) (for_ret rfl p4))))))
        · have := (un w hw).1
          rw [hg] at this; cases this
      · rw [hg] at w4
        refine ⟨wayD (by3 a b d), fun k => ?_, .inr ⟨_, rfl, ?_, fun w hw => (un w hw).2⟩⟩
        · have p4 : jwB [.val (.lst [a.D, b.D, c.D, d.D]), .val (.int 4), .no] k = _ := jw_go rfl (w4 k) eq_nil1 (fun _ _ z => by cases z)
          refine hd _ k ?_
          rw [seq_nx ((f k).trans (for_nx rfl (p1 k) (for_nx rfl (p2 k) (for_nx rfl (p3 k) (for_nx rfl p4 rfl)))))]
          exact jw_way (w4 k)
        · unfold goodB at hg
          exact (Bool.and_eq_true_iff.mp hg).2
end
end Sky

end
section
namespace Sky
open PySem PySem.Spec PyProof.Rows L2
-- ### nights told the other way round 
def bk (w : Wy) (L : Int) : Wy := ⟨⟨w.s.x + L * w.d.x, w.s.y + L * w.d.y, w.s.z + L * w.d.z⟩, ⟨0 - w.d.x, 0 - w.d.y, 0 - w.d.z⟩⟩
theorem bk_at (w : Wy) (L n : Int) : (bk w L).at n = w.at (L - n) := by
  simp only [bk, Wy.at, Ve.mk.injEq]; refine ⟨?_, ?_, ?_⟩ <;> grind
theorem bk_bk (w : Wy) (L : Int) : bk (bk w L) L = w := by
  obtain ⟨⟨a, b, c⟩, ⟨d, e, f⟩⟩ := w
  simp only [bk, Wy.mk.injEq, Ve.mk.injEq]
  refine ⟨⟨?_, ?_, ?_⟩, ⟨?_, ?_, ?_⟩⟩ <;> grind
theorem bk_cr (w : Wy) (L : Int) : (bk w L).s.cr (bk w L).d = Ve.sm (-1) (w.s.cr w.d) := by
  simp only [bk, Ve.cr, Ve.sm, Ve.mk.injEq]; refine ⟨?_, ?_, ?_⟩ <;> grind
def rv (L : Int) (r : Rw) : Rw := ⟨L - r.n, r.p⟩
theorem rv_rv (L : Int) (r : Rw) : rv L (rv L r) = r := by
  obtain ⟨n, p⟩ := r
  show (⟨L - (L - n), p⟩ : Rw) = ⟨n, p⟩
  rw [show L - (L - n) = n by omega]
theorem rowB_bk (w : Wy) (L : Int) (r : Rw) : rowB (bk w L) (rv L r) = rowB w r := by
  unfold rowB
  have e : (bk w L).at (rv L r).n = w.at r.n := by rw [bk_at]; congr 1; show L - (L - r.n) = r.n; omega
  rw [e]
  rfl
theorem cr_swap_nz (u v : Ve) : (u.cr v).nz ↔ (v.cr u).nz := by
  have e : u.cr v = Ve.sm (-1) (v.cr u) := by simp only [Ve.cr, Ve.sm, Ve.mk.injEq]; refine ⟨?_, ?_, ?_⟩ <;> grind
  rw [e, sm_nz (by decide)]
theorem dot_swap (u v : Ve) : u.dot v = v.dot u := by simp only [Ve.dot]; grind
theorem last_bk (w : Wy) (L m n : Int) : (decide (((bk w L).at (L - n)).cr ((bk w L).at (L - m))).nz || decide (0 < ((bk w L).at (L - n)).dot ((bk w L).at (L - m)))) = (decide ((w.at m).cr (w.at n)).nz || decide (0 < (w.at m).dot (w.at n))) := by
  rw [bk_at, bk_at, show L - (L - n) = n by omega, show L - (L - m) = m by omega, dot_swap (w.at n) (w.at m), decide_eq_decide.mpr (cr_swap_nz (w.at n) (w.at m))]
theorem seen2_bk (w : Wy) (L : Int) (a b : Rw) : seenB (bk w L) [rv L b, rv L a] (rv L b).n (rv L a).n = seenB w [a, b] a.n b.n := by
  unfold seenB
  rw [show (rv L b).n = L - b.n from rfl, show (rv L a).n = L - a.n from rfl, last_bk]
  simp only [List.all_cons, List.all_nil, rowB_bk]
  cases rowB w a <;> cases rowB w b <;> rfl
theorem seen3_bk (w : Wy) (L : Int) (a b c : Rw) : seenB (bk w L) [rv L c, rv L b, rv L a] (rv L c).n (rv L a).n = seenB w [a, b, c] a.n c.n := by
  unfold seenB
  rw [show (rv L c).n = L - c.n from rfl, show (rv L a).n = L - a.n from rfl, last_bk]
  simp only [List.all_cons, List.all_nil, rowB_bk]
  cases rowB w a <;> cases rowB w b <;> cases rowB w c <;> rfl
theorem seen4_bk (w : Wy) (L : Int) (a b c d : Rw) : seenB (bk w L) [rv L d, rv L c, rv L b, rv L a] (rv L d).n (rv L a).n = seenB w [a, b, c, d] a.n d.n := by
  unfold seenB
  rw [show (rv L d).n = L - d.n from rfl, show (rv L a).n = L - a.n from rfl, last_bk]
  simp only [List.all_cons, List.all_nil, rowB_bk]
  cases rowB w a <;> cases rowB w b <;> cases rowB w c <;> cases rowB w d <;> rfl
theorem all_bk {P Q : Wy → Bool} (L : Int) (h : ∀ w, P (bk w L) = Q w) : (∀ w, P w = false) ↔ (∀ w, Q w = false) :=
  ⟨fun z w => by rw [← h]; exact z _, fun z w => by rw [← bk_bk w L, h]; exact z _⟩
theorem btw_swap (u v w : Ve) : Btw u v w ↔ Btw w v u := by
  have key : ∀ u v w : Ve, Btw u v w → Btw w v u := fun u v w ⟨h1, h2, h3, h4⟩ => by
    refine ⟨(cr_swap_nz u w).mp h1, ?_, ?_, ?_⟩
    · have e : (w.cr u).dot v = -(u.cr w).dot v := by simp only [Ve.dot, Ve.cr]; grind
      rw [e, h2]; rfl
    · have e : (w.cr v).dot (w.cr u) = (v.cr w).dot (u.cr w) := by simp only [Ve.dot, Ve.cr]; grind
      rw [e]; exact h4
    · have e : (v.cr u).dot (w.cr u) = (u.cr v).dot (u.cr w) := by simp only [Ve.dot, Ve.cr]; grind
      rw [e]; exact h3
  exact ⟨key _ _ _, key _ _ _⟩
end Sky

end
section
namespace Sky
open PySem PySem.Spec PyProof.Rows L2
def Ve.neg (p : Ve) : Ve := ⟨-p.x, -p.y, -p.z⟩
theorem neg_bd {p : Ve} {n : Nat} (h : p.Bd n) : p.neg.Bd n := ⟨h.a.neg, h.b.neg, h.c.neg⟩
theorem opp_ok {p : Ve} {n k : Nat} (h : p.nz) (b : p.Bd n) (hn : n < 9000) : F_opposite [p.D] k = some (p.lst.neg.D, k) := by
  have l := lst_ok (k := k) h b hn
  refine runB_ret ?_
  show S_opposite [.val p.D, .no] k = _
  unfold S_opposite
  have it : dItems (dCall 1 F_least (dCons (dV 0) (dNil))) [.val p.D, .no] k = some ([.int p.lst.x, .int p.lst.y, .int p.lst.z], k) := items_ok (c1_ok rfl l) rfl
  have st : ∀ x : Int, dUn D.neg (dV 1) ((wipeE [.val p.D, .no] [1]).set 1 (.val (.int x))) k = some (.int (-x), k) := fun x => un_ok rfl rfl
  exact seq_ret (ret_ok (bi_ok (cons1_ok (lc_ok it (lc_put (st _) (lc_put (st _) (lc_put (st _) lc_nil))) rfl)) rfl))
-- ### bounds 
def lowOf (a b : Rw) (n : Int) : Ve := if n < a.n then b.p.neg else if n < b.n then a.p else b.p
def highOf (a b : Rw) (n : Int) : Ve := if n < a.n then a.p else if n < b.n then b.p else a.p.neg
theorem cIn2 {n i j : Int} : cIn (.int n) (.tup [.int i, .int j]) = some (decide (n = i) || decide (n = j)) := by
  simp [cIn, memP, D.py, D.pys, SeqAt.shaped, PyData.canLay0, PyData.canLayAll0, PyData.depth, PyData.depthAll, PyData.eqv]
  have e : ∀ x y : Int, (x == y) = decide (y = x) := fun x y => by
    rw [Bool.eq_iff_iff, beq_iff_eq, decide_eq_true_iff]
    exact ⟨Eq.symm, Eq.symm⟩
  rw [e, e]
theorem tgRows {ρ : Env} {f : Sem} {k k' : Nat} {a b c d : D} {i j l m : Nat} (h : f ρ k = some (.lst [.tup [a, b], .tup [c, d]], k')) : sAsg f (tgLst 2 (tgsCons (tgTup 2 (tgsCons (tgName i) (tgsCons (tgName j) (tgsNil)))) (tgsCons (tgTup 2 (tgsCons (tgName l) (tgsCons (tgName m) (tgsNil)))) (tgsNil)))) ρ k = some (.nx ((((ρ.set i (.val a)).set j (.val b)).set l (.val c)).set m (.val d)), k') := by
  simp only [sAsg, M.bind, h, tgLst, tgTup, tgsCons, tgsNil, put_name, List.length_cons, List.length_nil, Nat.zero_add, Nat.reduceAdd, Nat.beq, M.pure]
theorem bounds_ok {a b : Rw} {n : Int} {k : Nat} (oa : a.Ok) (ob : b.Ok) (h : a.n < b.n) (e : (a.p.cr b.p).nz) (h0 : 0 ≤ n) (h1 : n ≤ 99) (na : n ≠ a.n) (nb : n ≠ b.n) : F_bounds_at [.lst [a.D, b.D], .int n] k = some (.tup [(lowOf a b n).D, (highOf a b n).D], k) := by
  refine runB_ret ?_
  show S_bounds_at [.val (.lst [a.D, b.D]), .val (.int n), .no, .no, .no, .no] k = _
  unfold S_bounds_at
  rw [seq_nx (drop_ok (c1_ok rfl (check_sightings_ok (rows := [a, b]) (by simp) ⟨by have := oa.l; omega, oa, by omega, ob, trivial⟩)))]
  have li : F_is_on_line [a.p.D, b.p.D] k = some (.bl (decide ((a.p.cr b.p).x = 0 ∧ (a.p.cr b.p).y = 0 ∧ (a.p.cr b.p).z = 0)), k) := lineB (k := k) oa.b ob.b (by decide)
  rw [decide_eq_false e] at li
  have q1 : dEqB eqT true (dBi bLen (dCons (dV 0) (dNil))) (dC (.int 2)) [.val (.lst [a.D, b.D]), .val (.int n), .no, .no, .no, .no] k = some (false, k) := ne_int (i := 2) rfl rfl
  have q2 : dTru (dCall 2 F_is_on_line (dCons (dBin D.ix (dBin D.ix (dV 0) (dC (.int 0))) (dC (.int 1))) (dCons (dBin D.ix (dBin D.ix (dV 0) (dC (.int 1))) (dC (.int 1))) (dNil)))) [.val (.lst [a.D, b.D]), .val (.int n), .no, .no, .no, .no] k = some (false, k) := tru_ok (c2_ok (bin_ok (bin_ok rfl rfl rfl) rfl rfl) (bin_ok (bin_ok rfl rfl rfl) rfl rfl) li)
  have s1 := sif_f (f := sFail) (g := sNext) (or_f q1 q2)
  have s2 : sAsg (dV 0) (tgLst 2 (tgsCons (tgTup 2 (tgsCons (tgName 2) (tgsCons (tgName 3) (tgsNil)))) (tgsCons (tgTup 2 (tgsCons (tgName 4) (tgsCons (tgName 5) (tgsNil)))) (tgsNil)))) [.val (.lst [a.D, b.D]), .val (.int n), .no, .no, .no, .no] k = some (.nx [.val (.lst [a.D, b.D]), .val (.int n), .val (.int a.n), .val a.p.D, .val (.int b.n), .val b.p.D], k) := tgRows rfl
  rw [seq_nx (s1.trans rfl), seq_nx s2]
  have q3 := not_ok (tru_ok (f := dCall 3 F_is_number (dCons (dV 1) (dCons (dC (.int 0)) (dCons (dC (.int 99)) (dNil))))) (ρ := [.val (.lst [a.D, b.D]), .val (.int n), .val (.int a.n), .val a.p.D, .val (.int b.n), .val b.p.D]) (k := k) (c3_ok rfl rfl rfl (num_ok h0 h1)))
  have q4 : dBinB cIn (dV 1) (dTup (dCons (dV 2) (dCons (dV 4) (dNil)))) [.val (.lst [a.D, b.D]), .val (.int n), .val (.int a.n), .val a.p.D, .val (.int b.n), .val b.p.D] k = _ := binB_ok rfl (tup2_ok rfl rfl) cIn2
  rw [decide_eq_false na, decide_eq_false nb] at q4
  rw [seq_nx ((sif_f (or_f q3 q4)).trans rfl)]
  have la := lst_ok (k := k) (prim_nz oa.p) oa.b (by decide)
  rw [prim_lst oa.p] at la
  have lb := lst_ok (k := k) (prim_nz ob.p) ob.b (by decide)
  rw [prim_lst ob.p] at lb
  have pa := opp_ok (k := k) (prim_nz oa.p) oa.b (by decide)
  rw [prim_lst oa.p] at pa
  have pb := opp_ok (k := k) (prim_nz ob.p) ob.b (by decide)
  rw [prim_lst ob.p] at pb
  have t1 : dBinB cLt (dV 1) (dV 2) [.val (.lst [a.D, b.D]), .val (.int n), .val (.int a.n), .val a.p.D, .val (.int b.n), .val b.p.D] k = some (decide (n < a.n), k) := rfl
  have t2 : dBinB cLt (dV 1) (dV 4) [.val (.lst [a.D, b.D]), .val (.int n), .val (.int a.n), .val a.p.D, .val (.int b.n), .val b.p.D] k = some (decide (n < b.n), k) := rfl
  unfold lowOf highOf
  by_cases c1 : n < a.n
  · rw [if_pos c1, if_pos c1]
    rw [decide_eq_true c1] at t1
    exact seq_ret ((sif_t t1).trans (seq_ret (ret_ok (tup2_ok (c1_ok rfl pb) (c1_ok rfl la)))))
  · rw [if_neg c1, if_neg c1]
    rw [decide_eq_false c1] at t1
    rw [seq_nx ((sif_f t1).trans rfl)]
    refine seq_ret (ret_ok ?_)
    by_cases c2 : n < b.n
    · rw [decide_eq_true c2] at t2
      rw [if_pos c2, if_pos c2, if_t t2]
      exact tup2_ok (c1_ok rfl la) (c1_ok rfl lb)
    · rw [decide_eq_false c2] at t2
      rw [if_neg c2, if_neg c2, if_f t2]
      exact tup2_ok (c1_ok rfl lb) (c1_ok rfl pa)
theorem low_bd10 {a b : Rw} {n : Int} (oa : a.Ok) (ob : b.Ok) : (lowOf a b n).Bd 10 ∧ (highOf a b n).Bd 10 := by
  unfold lowOf highOf
  refine ⟨?_, ?_⟩
  · split
    · exact neg_bd ob.b
    · split
      · exact oa.b
      · exact ob.b
  · split
    · exact oa.b
    · split
      · exact ob.b
      · exact neg_bd oa.b
theorem within_ok {a b : Rw} {n : Int} {q : Ve} {k : Nat} (oa : a.Ok) (ob : b.Ok) (h : a.n < b.n) (e : (a.p.cr b.p).nz) (h0 : 0 ≤ n) (h1 : n ≤ 99) (na : n ≠ a.n) (nb : n ≠ b.n) (hq : Prim q) (bq : q.Bd 10) : F_is_within [.lst [a.D, b.D], .int n, q.D] k = some (.bl (decide (Btw (lowOf a b n) q (highOf a b n))), k) := by
  refine runB_ret ?_
  show S_is_within [.val (.lst [a.D, b.D]), .val (.int n), .val q.D, .no, .no] k = _
  unfold S_is_within
  have e1 : sAsg (dCall 2 F_bounds_at (dCons (dV 0) (dCons (dV 1) (dNil)))) (tgTup 2 (tgsCons (tgName 3) (tgsCons (tgName 4) (tgsNil)))) [.val (.lst [a.D, b.D]), .val (.int n), .val q.D, .no, .no] k = some (.nx [.val (.lst [a.D, b.D]), .val (.int n), .val q.D, .val (lowOf a b n).D, .val (highOf a b n).D], k) := asgT2_ok (c2_ok rfl rfl (bounds_ok oa ob h e h0 h1 na nb))
  rw [seq_nx e1]
  have t := not_ok (tru_ok (f := dCall 1 F_is_direction (dCons (dV 2) (dNil))) (ρ := [.val (.lst [a.D, b.D]), .val (.int n), .val q.D, .val (lowOf a b n).D, .val (highOf a b n).D]) (k := k) (c1_ok rfl (direction_ok hq bq)))
  rw [seq_nx ((sif_f t).trans rfl)]
  obtain ⟨b1, b2⟩ := low_bd10 (n := n) oa ob
  exact seq_ret (ret_ok (c3_ok rfl rfl rfl (is_between_ok b1 bq b2 (by decide))))
theorem neg_cr (p q : Ve) : p.neg.cr q = q.cr p := by simp only [Ve.cr, Ve.neg, Ve.mk.injEq]; refine ⟨?_, ?_, ?_⟩ <;> grind
theorem cr_neg (p q : Ve) : p.cr q.neg = q.cr p := by simp only [Ve.cr, Ve.neg, Ve.mk.injEq]; refine ⟨?_, ?_, ?_⟩ <;> grind
theorem up_neg_l {N q b : Ve} (h : Up N q b) : Up N b.neg q := by unfold Up; rw [neg_cr]; exact h
theorem up_neg_r {N a q : Ve} (h : Up N a q) : Up N q a.neg := by unfold Up; rw [cr_neg]; exact h
/-- a body seen twice is within its bounds on any other night -/
theorem within_btw {w : Wy} {a b : Rw} {n : Int} (nz : (w.s.cr w.d).nz) (h : a.n < b.n) (da : Dir (w.at a.n) a.p) (db : Dir (w.at b.n) b.p) (na : n ≠ a.n) (nb : n ≠ b.n) {q : Ve} (dq : Dir (w.at n) q) : Btw (lowOf a b n) q (highOf a b n) := by
  have u : Up (w.s.cr w.d) a.p b.p := (up_at h).dir da db
  unfold lowOf highOf
  by_cases c1 : n < a.n
  · rw [if_pos c1, if_pos c1]
    have u1 : Up (w.s.cr w.d) q a.p := (up_at c1).dir dq da
    have u2 : Up (w.s.cr w.d) q b.p := (up_at (Int.lt_trans c1 h)).dir dq db
    exact btw_up nz (up_neg_l u2) u1 (up_neg_l u)
  · rw [if_neg c1, if_neg c1]
    have c1' : a.n < n := by omega
    have u1 : Up (w.s.cr w.d) a.p q := (up_at c1').dir da dq
    by_cases c2 : n < b.n
    · rw [if_pos c2, if_pos c2]
      exact btw_up nz u1 ((up_at c2).dir dq db) u
    · rw [if_neg c2, if_neg c2]
      have u2 : Up (w.s.cr w.d) b.p q := (up_at (show b.n < n by omega)).dir db dq
      exact btw_up nz u2 (up_neg_r u1) (up_neg_r u)
end Sky

end
section
namespace Sky
open PySem PySem.Spec PyProof.Rows L2
theorem lcg_put {t : Tg} {f : Sem} {ρ ρ1 : Env} {d x : D} {ds xs : List D} {k k1 k2 : Nat} (hp : t.put d ρ = some ρ1) (hf : f ρ1 k = some (x, k1)) (hr : lcLoop t dTrue f ρ ds k1 = some (xs, k2)) : lcLoop t dTrue f ρ (d :: ds) k = some (x :: xs, k2) := by
  simp only [lcLoop, hp, M.bind, dTrue, hf, hr, M.pure]
theorem lcg_ok {vs : List Nat} {it : SemL} {t : Tg} {c : SemB} {f : Sem} {ρ : Env} {ds xs : List D} {k k1 k2 : Nat} (h : it ρ k = some (ds, k1)) (hl : lcLoop t c f (wipeE ρ vs) ds k1 = some (xs, k2)) (hx : lim xs.length = true) : dLc vs it t c f ρ k = some (.lst xs, k2) := by
  simp only [dLc, M.bind, h, hl, M.lift, hx, if_true]
theorem lc_map {i : Nat} {f : Sem} {ρ : Env} {k : Nat} {g : D → D} : ∀ (ds : List D), (∀ d ∈ ds, f (ρ.set i (.val d)) k = some (g d, k)) → lcLoop (tgName i) dTrue f ρ ds k = some (ds.map g, k)
  | [], _ => rfl
  | d :: ds, h => lc_put (h d List.mem_cons_self) (lc_map ds fun x hx => h x (List.mem_cons_of_mem _ hx))
/-- a comprehension by three, with a condition -/
theorem lc_if {i j l : Nat} {c : SemB} {f : Sem} {ρ : Env} {k : Nat} {p : D × D × D → Bool} {g : D × D × D → D} : ∀ (ts : List (D × D × D)),
    (∀ t ∈ ts, c (((ρ.set i (.val t.1)).set j (.val t.2.1)).set l (.val t.2.2)) k = some (p t, k) ∧ f (((ρ.set i (.val t.1)).set j (.val t.2.1)).set l (.val t.2.2)) k = some (g t, k)) →
    lcLoop (tgTup 3 (tgsCons (tgName i) (tgsCons (tgName j) (tgsCons (tgName l) (tgsNil))))) c f ρ (ts.map fun t => D.tup [t.1, t.2.1, t.2.2]) k = some ((ts.filter p).map g, k)
  | [], _ => rfl
  | t :: ts, h => by
    have ih := lc_if ts fun x hx => h x (List.mem_cons_of_mem _ hx)
    obtain ⟨h1, h2⟩ := h t List.mem_cons_self
    have pt : (tgTup 3 (tgsCons (tgName i) (tgsCons (tgName j) (tgsCons (tgName l) (tgsNil))))).put (D.tup [t.1, t.2.1, t.2.2]) ρ = some (((ρ.set i (.val t.1)).set j (.val t.2.1)).set l (.val t.2.2)) := by
      simp only [tgTup, tgsCons, tgsNil, put_name, List.length_cons, List.length_nil, Nat.zero_add, Nat.reduceAdd, Nat.beq]
    rw [List.map_cons]
    cases hp : p t with
    | true =>
      rw [hp] at h1
      rw [List.filter_cons_of_pos hp, List.map_cons]
      simp only [lcLoop, pt, M.bind, h1, h2, ih, M.pure]
    | false =>
      rw [hp] at h1
      rw [List.filter_cons_of_neg (by rw [hp]; decide)]
      simp only [lcLoop, pt, M.bind, h1, ih]
theorem put2 {ρ : Env} {i j : Nat} {a b : D} : (tgTup 2 (tgsCons (tgName i) (tgsCons (tgName j) (tgsNil)))).put (.tup [a, b]) ρ = some ((ρ.set i (.val a)).set j (.val b)) := by
  simp only [tgTup, tgsCons, tgsNil, put_name, List.length_cons, List.length_nil, Nat.zero_add, Nat.reduceAdd, Nat.beq]
/-- what is seen, or nothing -/
def sn (p : Ve) : D := if p.nz then p.lst.D else .non
theorem seen_any {w : Wy} {n : Int} {b k : Nat} (hb : w.Bd b) (h0 : 0 ≤ n) (h1 : n ≤ 99) (hn : b < 5000) : F_seen [w.D, .int n] k = some (sn (w.at n), k) := by
  unfold sn
  by_cases nz : (w.at n).nz
  · rw [if_pos nz]
    exact seen_ok hb h0 h1 hn nz
  · rw [if_neg nz]
    refine runB_ret ?_
    show S_seen [.val w.D, .val (.int n), .no] k = _
    unfold S_seen
    have e : sAsg (dCall 2 F_at_night (dCons (dV 0) (dCons (dV 1) (dNil)))) (tgName 2) [.val w.D, .val (.int n), .no] k = some (.nx [.val w.D, .val (.int n), .val (w.at n).D], k) := asg_ok (c2_ok rfl rfl (at_night_ok hb h0 h1 hn))
    rw [seq_nx (drop_ok (c1_ok rfl check_way_ok)), seq_nx (drop_ok (c4_ok rfl rfl rfl rfl (check_num h0 h1))), seq_nx e]
    have t := eq_ve0 (f := dV 2) (ρ := [.val w.D, .val (.int n), .val (w.at n).D]) (k := k) (k1 := k) (p := w.at n) rfl
    rw [decide_eq_true (Classical.not_not.mp nz)] at t
    refine seq_ret (ret_ok ?_)
    rw [if_t t]
    rfl
theorem non_self : cEqP .non .non = some true := by decide +kernel
theorem sn_self (p : Ve) : cEqP (sn p) (sn p) = some true ∧ ∀ c fs, sn p ≠ .ins c fs := by
  unfold sn
  by_cases nz : p.nz
  · rw [if_pos nz]; exact ⟨eq_ve_self _, fun _ _ z => by cases z⟩
  · rw [if_neg nz]; exact ⟨non_self, fun _ _ z => by cases z⟩
theorem ne_ve0 {f : Sem} {ρ : Env} {k k1 : Nat} {p : Ve} (h : f ρ k = some (p.D, k1)) : dEqB eqT true f (dTup (dCons (dC (.int 0)) (dCons (dC (.int 0)) (dCons (dC (.int 0)) (dNil))))) ρ k = some (decide p.nz, k1) := by
  have := eqB_ok (neg := true) (g := dTup (dCons (dC (.int 0)) (dCons (dC (.int 0)) (dCons (dC (.int 0)) (dNil))))) (e := (⟨0, 0, 0⟩ : Ve).D) (k2 := k1) (fun _ _ z => by cases z) h rfl (eq_v3 (a := p.x) (b := p.y) (c := p.z) (x := 0) (y := 0) (z := 0))
  rw [this]
  by_cases z : p.nz
  · rw [decide_eq_true z, decide_eq_false z]; rfl
  · rw [decide_eq_false z, decide_eq_true (Classical.not_not.mp z)]; rfl
theorem isW {f : Sem} {ρ : Env} {k k1 : Nat} {w : Wy} (h : f ρ k = some (wayD w, k1)) : dIsi (.own .Way) f ρ k = some (.bl true, k1) := by simp only [dIsi, M.bind, h]; rfl
theorem isWs {f : Sem} {ρ : Env} {k k1 : Nat} {u v : Wy} (h : f ρ k = some (waysD u v, k1)) : dIsi (.own .Ways) f ρ k = some (.bl true, k1) := by simp only [dIsi, M.bind, h]; rfl
theorem sky_prim0 : ∀ t ∈ skyL, Int.gcd (Int.gcd t.1 t.2.1) t.2.2 = 1 := by decide
theorem Sk.prim {x y z : Int} (h : Sk x y z) : g3 x y z = 1 := by
  obtain ⟨t, ht, h1, h2, h3⟩ := h
  have p := sky_prim0 t ht
  unfold g3
  rcases h1 with e1 | e1 <;> rcases h2 with e2 | e2 <;> rcases h3 with e3 | e3 <;> rw [e1, e2, e3] <;> simp [p]
theorem prim_neg {p : Ve} (h : Prim p) : Prim p.neg := by
  unfold Prim Ve.neg at *
  rw [g3_neg, h]
-- ### judge_way by two 
theorem judge2 {a b : Rw} (oa : a.Ok) (ob : b.Ok) (h1 : a.n < b.n) (e1 : (a.p.cr b.p).nz) (k : Nat) : F_judge_way [.lst [a.D, b.D]] k = some (waysD (wyI a b 1) (wyI a b 2), k) := by
  refine runB_ret ?_
  show S_judge_way [.val (.lst [a.D, b.D]), .no, .no] k = _
  rw [jw_eq, seq_nx (drop_ok (c1_ok rfl (check_sightings_ok (rows := [a, b]) (by simp) ⟨by have := oa.l; omega, oa, by omega, ob, trivial⟩)))]
  have f : sFor (dRng (dCons (dC (.int 1)) (dCons (dBin D.add (dBi bLen (dCons (dV 0) (dNil))) (dC (.int 1))) dNil))) (tgName 1) jwB [.val (.lst [a.D, b.D]), .no, .no] k = forLoop (tgName 1) jwB [.int 1, .int 2] [.val (.lst [a.D, b.D]), .no, .no] k := for_ok (rng_up3 (n := 2) (by decide) rfl rfl)
  have p1 := go1 (a := a) (L := [a.D, b.D]) (s2 := .no) (k := k) oa rfl
  have p2 := go2 (a := a) (b := b) (L := [a.D, b.D]) (s2 := .no) (k := k) oa ob e1 rfl
  rw [seq_nx (f.trans (for_nx rfl p1 (for_nx rfl p2 rfl)))]
  exact jw_ways (ways_two oa ob e1)
-- ### a body that stands still, seen along a triple that is not in lowest terms 
section
variable {p : Ve} {k : Nat}
theorem direction0 (nz : p.nz) (b : p.Bd 10) : F_is_direction [p.D] k = some (.bl true, k) := by
  have n1 : ∀ x : Int, Sky.Bd 10 x → -999999 ≤ x ∧ x ≤ 999999 := fun x hx => by
    have : x.natAbs < 1024 := hx
    omega
  have m1 := num_ok (k := k) (n1 _ b.a).1 (n1 _ b.a).2
  have m2 := num_ok (k := k) (n1 _ b.b).1 (n1 _ b.b).2
  have m3 := num_ok (k := k) (n1 _ b.c).1 (n1 _ b.c).2
  have t := is_triple_spec (a := p.x) (b := p.y) (c := p.z) (k := k)
  rw [decide_eq_false nz] at t
  have tr : F_is_triple [p.D] k = some (.bl true, k) := t
  refine runB_ret ?_
  show S_is_direction [.val p.D, .no] k = _
  unfold S_is_direction
  refine seq_ret (ret_ok ?_)
  have e1 : dCall 1 F_is_triple (dCons (dV 0) (dNil)) [.val p.D, .no] k = some (.bl true, k) := c1_ok rfl tr
  have st : ∀ x : Int, F_is_number [.int x, .int (-999999), .int 999999] k = some (.bl true, k) → dCall 3 F_is_number (dCons (dV 1) (dCons (dUn D.neg (dC (.int 999999))) (dCons (dC (.int 999999)) (dNil)))) ([.val p.D, .no].set 1 (.val (.int x))) k = some (.bl true, k) := fun x h => c3_ok rfl rfl rfl h
  have e2 : dBi bAll (dCons (dLc [1] (dItems (dV 0)) (tgName 1) (dTrue) (dCall 3 F_is_number (dCons (dV 1) (dCons (dUn D.neg (dC (.int 999999))) (dCons (dC (.int 999999)) (dNil)))))) (dNil)) [.val p.D, .no] k = some (.bl true, k) :=
    bi_ok (cons1_ok (lc_ok (items_ok rfl rfl) (lc_put (st _ m1) (lc_put (st _ m2) (lc_put (st _ m3) lc_nil))) rfl)) rfl
  simp only [dAndV, M.bind, e1, D.tru, M.lift, e2]
theorem cs0 {n last : Int} {d e : D} (nz : p.nz) (b : p.Bd 10) (hl : last + 1 ≤ n) (h : n ≤ 99) : csB [.val d, .val (.int last), .val e, .val (.tup [.int n, p.D])] k = some (.nx [.val d, .val (.int n), .val e, .val (.tup [.int n, p.D])], k) := by
  unfold csB
  have a2 : dEqB eqT true (dBi bLen (dCons (dV 3) (dNil))) (dC (.int 2)) [.val d, .val (.int last), .val e, .val (.tup [.int n, p.D])] k = some (false, k) := ne_int (i := 2) rfl rfl
  have a3 : dCall 3 F_is_number (dCons (dBin D.ix (dV 3) (dC (.int 0))) (dCons (dBin D.add (dV 1) (dC (.int 1))) (dCons (dC (.int 99)) (dNil)))) [.val d, .val (.int last), .val e, .val (.tup [.int n, p.D])] k = some (.bl true, k) := c3_ok (bin_ok rfl rfl rfl) (bin_ok rfl rfl rfl) rfl (num_ok hl h)
  have a4 : dCall 1 F_is_direction (dCons (dBin D.ix (dV 3) (dC (.int 1))) (dNil)) [.val d, .val (.int last), .val e, .val (.tup [.int n, p.D])] k = some (.bl true, k) := c1_ok (bin_ok rfl rfl rfl) (direction0 nz b)
  have s1 := sif_f (f := sFail) (g := sNext) (or_f (f := dNotB (dTru (dIsi .tuple (dV 3)))) (k1 := k) rfl (or_f a2 (not_ok (tru_ok a3))))
  have s2 := sif_f (f := sFail) (g := sNext) (not_ok (tru_ok a4))
  rw [seq_nx (s1.trans rfl), seq_nx (s2.trans rfl)]
  rfl
abbrev rowZ (p : Ve) (n : Int) : D := .tup [.int n, p.D]
theorem check_z1 (nz : p.nz) (b : p.Bd 10) : F_check_sightings [.lst [rowZ p 0]] k = some (.non, k) := by
  have e : S_check_sightings (startE 4 [.lst [rowZ p 0]]) k = some (.nx [.val (.lst [rowZ p 0]), .val (.int 0), .val (.int 0), .val (rowZ p 0)], k) := by
    show S_check_sightings [.val (.lst [rowZ p 0]), .no, .no, .no] k = _
    unfold S_check_sightings
    have t1 : dCall 1 F_is_row (dCons (dV 0) (dNil)) [.val (.lst [rowZ p 0]), .no, .no, .no] k = some (.bl true, k) := c1_ok rfl is_row_lst
    have t2 : dEqB eqT false (dBi bLen (dCons (dV 0) (dNil))) (dC (.int 0)) [.val (.lst [rowZ p 0]), .no, .no, .no] k = some (false, k) := (eqB_ok (neg := false) (d := .int 1) (e := .int 0) (k2 := k) (fun _ _ z => by cases z) (bi_ok (cons1_ok rfl) rfl) rfl eq_int).trans rfl
    have s1 := sif_f (f := sFail) (g := sNext) (or_f (not_ok (tru_ok t1)) t2)
    rw [seq_nx (s1.trans rfl), seq_nx (ρ' := [.val (.lst [rowZ p 0]), .val (.int (-1)), .no, .no]) (k' := k) rfl]
    rw [seq_nx ((for_ok (k' := k) (ds := [.tup [.int 0, rowZ p 0]]) rfl).trans (for_nx rfl (cs0 (n := 0) nz b (by decide) (by decide)) rfl))]
    rfl
  show runB 4 S_check_sightings [.lst [rowZ p 0]] k = _
  simp only [runB, e]
theorem check_z2 (nz : p.nz) (b : p.Bd 10) : F_check_sightings [.lst [rowZ p 0, rowZ p 7]] k = some (.non, k) := by
  have e : S_check_sightings (startE 4 [.lst [rowZ p 0, rowZ p 7]]) k = some (.nx [.val (.lst [rowZ p 0, rowZ p 7]), .val (.int 7), .val (.int 1), .val (rowZ p 7)], k) := by
    show S_check_sightings [.val (.lst [rowZ p 0, rowZ p 7]), .no, .no, .no] k = _
    unfold S_check_sightings
    have t1 : dCall 1 F_is_row (dCons (dV 0) (dNil)) [.val (.lst [rowZ p 0, rowZ p 7]), .no, .no, .no] k = some (.bl true, k) := c1_ok rfl is_row_lst
    have t2 : dEqB eqT false (dBi bLen (dCons (dV 0) (dNil))) (dC (.int 0)) [.val (.lst [rowZ p 0, rowZ p 7]), .no, .no, .no] k = some (false, k) := (eqB_ok (neg := false) (d := .int 2) (e := .int 0) (k2 := k) (fun _ _ z => by cases z) (bi_ok (cons1_ok rfl) rfl) rfl eq_int).trans rfl
    have s1 := sif_f (f := sFail) (g := sNext) (or_f (not_ok (tru_ok t1)) t2)
    rw [seq_nx (s1.trans rfl), seq_nx (ρ' := [.val (.lst [rowZ p 0, rowZ p 7]), .val (.int (-1)), .no, .no]) (k' := k) rfl]
    rw [seq_nx ((for_ok (k' := k) (ds := [.tup [.int 0, rowZ p 0], .tup [.int 1, rowZ p 7]]) rfl).trans (for_nx rfl (cs0 (n := 0) nz b (by decide) (by decide)) (for_nx rfl (cs0 (n := 7) nz b (by decide) (by decide)) rfl)))]
    rfl
  show runB 4 S_check_sightings [.lst [rowZ p 0, rowZ p 7]] k = _
  simp only [runB, e]
theorem is0 {n : Int} {d : D} {s4 s5 s6 : Slot} (nz : p.nz) (b : p.Bd 10) (h0 : 0 ≤ n) (h1 : n ≤ 99) : isB [.val (still p.lst).D, .val d, .val (.int n), .val p.D, s4, s5, s6] k = some (.nx [.val (still p.lst).D, .val d, .val (.int n), .val p.D, .val p.lst.D, s5, s6], k) := by
  unfold isB
  have lp := lst_prim nz
  have lz := prim_nz lp
  have lb := lst_bd nz b
  have an := at_night_ok (k := k) (w := still p.lst) (still_bd lb) h0 h1 (by decide)
  rw [still_at] at an
  have e1 : sAsg (dCall 2 F_at_night (dCons (dV 0) (dCons (dV 2) (dNil)))) (tgName 4) [.val (still p.lst).D, .val d, .val (.int n), .val p.D, s4, s5, s6] k = some (.nx [.val (still p.lst).D, .val d, .val (.int n), .val p.D, .val p.lst.D, s5, s6], k) := asg_ok (c2_ok rfl rfl an)
  rw [seq_nx e1]
  have t1 := eq_ve0 (f := dV 4) (ρ := [.val (still p.lst).D, .val d, .val (.int n), .val p.D, .val p.lst.D, s5, s6]) (k := k) (k1 := k) (p := p.lst) rfl
  rw [decide_eq_false lz] at t1
  have l1 := lst_ok (k := k) lz lb (by decide)
  rw [prim_lst lp] at l1
  have l2 := lst_ok (k := k) nz b (by decide)
  have t2 := eqB_ve (neg := true) (f := dCall 1 F_least (dCons (dV 4) (dNil))) (g := dCall 1 F_least (dCons (dV 3) (dNil))) (ρ := [.val (still p.lst).D, .val d, .val (.int n), .val p.D, .val p.lst.D, s5, s6]) (k := k) (c1_ok rfl l1) (c1_ok rfl l2)
  rw [decide_eq_true rfl] at t2
  rw [seq_nx ((sif_f (or_f t1 t2)).trans rfl)]
  rfl
theorem is_end {L : D} {s2 s3 s4 : Slot} {n : Int} (nz : p.nz) (b : p.Bd 10) (h0 : 0 ≤ n) (h1 : n ≤ 99) (hx : D.ix L (.int 0) = some (rowZ p 0)) (hy : D.ix L (.int (-1)) = some (rowZ p n)) :
    (sSeq (sPar2 5 6 (dCall 2 F_at_night (dCons (dV 0) (dCons (dBin D.ix (dBin D.ix (dV 1) (dC (.int 0))) (dC (.int 0))) (dNil)))) (dCall 2 F_at_night (dCons (dV 0) (dCons (dBin D.ix (dBin D.ix (dV 1) (dUn D.neg (dC (.int 1)))) (dC (.int 0))) (dNil))))) (sSeq (sRet (dOrV (dNotV (dCall 2 F_is_on_line (dCons (dV 5) (dCons (dV 6) (dNil))))) (dBin (fun x y => (cGtA x y).map D.bl) (dCall 2 F_dot (dCons (dV 5) (dCons (dV 6) (dNil)))) (dC (.int 0))))) (sNext))) [.val (still p.lst).D, .val L, s2, s3, s4, .no, .no] k = some (.ret (.bl true), k) := by
  have lp := lst_prim nz
  have lz := prim_nz lp
  have lb := lst_bd nz b
  have a1 := at_night_ok (k := k) (w := still p.lst) (n := 0) (still_bd lb) (by decide) (by decide) (by decide)
  have a2 := at_night_ok (k := k) (w := still p.lst) (still_bd lb) h0 h1 (by decide)
  rw [still_at] at a1 a2
  have e : sPar2 5 6 (dCall 2 F_at_night (dCons (dV 0) (dCons (dBin D.ix (dBin D.ix (dV 1) (dC (.int 0))) (dC (.int 0))) (dNil)))) (dCall 2 F_at_night (dCons (dV 0) (dCons (dBin D.ix (dBin D.ix (dV 1) (dUn D.neg (dC (.int 1)))) (dC (.int 0))) (dNil)))) [.val (still p.lst).D, .val L, s2, s3, s4, .no, .no] k =
      some (.nx [.val (still p.lst).D, .val L, s2, s3, s4, .val p.lst.D, .val p.lst.D], k) :=
    par2_ok (c2_ok rfl (bin_ok (bin_ok rfl rfl hx) rfl rfl) a1) (c2_ok rfl (bin_ok (bin_ok rfl rfl hy) rfl rfl) a2)
  rw [seq_nx e]
  refine seq_ret (ret_ok ?_)
  have li : F_is_on_line [p.lst.D, p.lst.D] k = some (.bl (decide ((p.lst.cr p.lst).x = 0 ∧ (p.lst.cr p.lst).y = 0 ∧ (p.lst.cr p.lst).z = 0)), k) := lineB (k := k) lb lb (by decide)
  rw [decide_eq_true (by rw [cr_self]; exact ⟨rfl, rfl, rfl⟩)] at li
  have l2 : dNotV (dCall 2 F_is_on_line (dCons (dV 5) (dCons (dV 6) (dNil)))) [.val (still p.lst).D, .val L, s2, s3, s4, .val p.lst.D, .val p.lst.D] k = _ := notV_ok (c2_ok rfl rfl li)
  have d := ve_dot (k := k) lb lb (by decide)
  have d2 : dBin (fun x y => (cGtA x y).map D.bl) (dCall 2 F_dot (dCons (dV 5) (dCons (dV 6) (dNil)))) (dC (.int 0)) [.val (still p.lst).D, .val L, s2, s3, s4, .val p.lst.D, .val p.lst.D] k = some (.bl (decide (0 < p.lst.dot p.lst)), k) := bin_ok (c2_ok rfl rfl d) rfl rfl
  rw [decide_eq_true (Ve.dot_pos lz)] at d2
  simp only [dOrV, M.bind, l2, D.tru, M.lift, M.pure, Bool.not_true, d2]
theorem seen_z1 (nz : p.nz) (b : p.Bd 10) : F_is_seen [(still p.lst).D, .lst [rowZ p 0]] k = some (.bl true, k) := by
  refine runB_ret ?_
  show S_is_seen [.val (still p.lst).D, .val (.lst [rowZ p 0]), .no, .no, .no, .no, .no] k = _
  unfold S_is_seen
  rw [seq_nx (drop_ok (c1_ok rfl check_way_ok)), seq_nx (drop_ok (c1_ok rfl (check_z1 nz b)))]
  have lp : forLoop (tgTup 2 (tgsCons (tgName 2) (tgsCons (tgName 3) (tgsNil)))) isB [rowZ p 0] [.val (still p.lst).D, .val (.lst [rowZ p 0]), .no, .no, .no, .no, .no] k = some (.nx [.val (still p.lst).D, .val (.lst [rowZ p 0]), .val (.int 0), .val p.D, .val p.lst.D, .no, .no], k) :=
    for_nx (ρ1 := [.val (still p.lst).D, .val (.lst [rowZ p 0]), .val (.int 0), .val p.D, .no, .no, .no]) rfl (is0 (n := 0) nz b (by decide) (by decide)) (rfl)
  rw [seq_nx (f := sFor (dItems (dV 1)) (tgTup 2 (tgsCons (tgName 2) (tgsCons (tgName 3) (tgsNil)))) isB) ((for_ok (k' := k) (ds := [rowZ p 0]) rfl).trans lp)]
  exact is_end (n := 0) nz b (by decide) (by decide) rfl rfl
theorem seen_z2 (nz : p.nz) (b : p.Bd 10) : F_is_seen [(still p.lst).D, .lst [rowZ p 0, rowZ p 7]] k = some (.bl true, k) := by
  refine runB_ret ?_
  show S_is_seen [.val (still p.lst).D, .val (.lst [rowZ p 0, rowZ p 7]), .no, .no, .no, .no, .no] k = _
  unfold S_is_seen
  rw [seq_nx (drop_ok (c1_ok rfl check_way_ok)), seq_nx (drop_ok (c1_ok rfl (check_z2 nz b)))]
  have lp : forLoop (tgTup 2 (tgsCons (tgName 2) (tgsCons (tgName 3) (tgsNil)))) isB [rowZ p 0, rowZ p 7] [.val (still p.lst).D, .val (.lst [rowZ p 0, rowZ p 7]), .no, .no, .no, .no, .no] k = some (.nx [.val (still p.lst).D, .val (.lst [rowZ p 0, rowZ p 7]), .val (.int 7), .val p.D, .val p.lst.D, .no, .no], k) :=
    for_nx (ρ1 := [.val (still p.lst).D, .val (.lst [rowZ p 0, rowZ p 7]), .val (.int 0), .val p.D, .no, .no, .no]) rfl (is0 (n := 0) nz b (by decide) (by decide)) (for_nx (ρ1 := [.val (still p.lst).D, .val (.lst [rowZ p 0, rowZ p 7]), .val (.int 7), .val p.D, .val p.lst.D, .no, .no]) rfl (is0 (n := 7) nz b (by decide) (by decide)) (rfl))
  rw [seq_nx (f := sFor (dItems (dV 1)) (tgTup 2 (tgsCons (tgName 2) (tgsCons (tgName 3) (tgsNil)))) isB) ((for_ok (k' := k) (ds := [rowZ p 0, rowZ p 7]) rfl).trans lp)]
  exact is_end (n := 7) nz b (by decide) (by decide) rfl rfl
theorem ways_z {L : D} {n : Int} (nz : p.nz) (b : p.Bd 10) (hx : D.ix L (.int 0) = some (rowZ p 0)) (hy : D.ix L (.int (-1)) = some (rowZ p n)) (hs : F_is_seen [(still p.lst).D, L] k = some (.bl true, k)) : F_ways_by [L] k = some (.tup [(still p.lst).D, (⟨p.lst, p.lst⟩ : Wy).D], k) := by
  refine runB_ret ?_
  show S_ways_by [.val L, .no, .no, .no, .no, .no, .no, .no] k = _
  rw [wb_eq]
  have l1 := lst_ok (k := k) nz b (by decide)
  have p1 : sPar2 1 2 (dBin D.ix (dV 0) (dC (.int 0))) (dBin D.ix (dV 0) (dUn D.neg (dC (.int 1)))) [.val L, .no, .no, .no, .no, .no, .no, .no] k = some (.nx [.val L, .val (rowZ p 0), .val (rowZ p n), .no, .no, .no, .no, .no], k) := par2_ok (bin_ok rfl rfl hx) (bin_ok rfl rfl hy)
  rw [seq_nx p1]
  have li : dCall 1 F_least (dCons (dBin D.ix (dV 1) (dC (.int 1))) (dNil)) [.val L, .val (rowZ p 0), .val (rowZ p n), .no, .no, .no, .no, .no] k = some (p.lst.D, k) := c1_ok (bin_ok rfl rfl rfl) l1
  have lj : dCall 1 F_least (dCons (dBin D.ix (dV 2) (dC (.int 1))) (dNil)) [.val L, .val (rowZ p 0), .val (rowZ p n), .no, .no, .no, .no, .no] k = some (p.lst.D, k) := c1_ok (bin_ok rfl rfl rfl) l1
  have t := eqB_ve (neg := false) li lj
  rw [decide_eq_true rfl] at t
  have s : sAsg (dTup (dCons (dTup (dCons (dCall 1 F_least (dCons (dBin D.ix (dV 1) (dC (.int 1))) (dNil))) (dCons (dTup (dCons (dC (.int 0)) (dCons (dC (.int 0)) (dCons (dC (.int 0)) (dNil))))) (dNil)))) (dCons (dTup (dCons (dCall 1 F_least (dCons (dBin D.ix (dV 1) (dC (.int 1))) (dNil))) (dCons (dCall 1 F_least (dCons (dBin D.ix (dV 1) (dC (.int 1))) (dNil))) (dNil)))) (dNil)))) (tgName 3) [.val L, .val (rowZ p 0), .val (rowZ p n), .no, .no, .no, .no, .no] k =
      some (.nx [.val L, .val (rowZ p 0), .val (rowZ p n), .val (.tup [(still p.lst).D, (⟨p.lst, p.lst⟩ : Wy).D]), .no, .no, .no, .no], k) := asg_ok (tup2_ok (tup2_ok li rfl) (tup2_ok li li))
  refine seq_ret ((sif_t t).trans ?_)
  rw [seq_nx s]
  refine seq_ret (ret_ok ?_)
  have sb := tru_ok (f := dCall 2 F_is_seen (dCons (dBin D.ix (dV 3) (dC (.int 0))) (dCons (dV 0) (dNil)))) (ρ := [.val L, .val (rowZ p 0), .val (rowZ p n), .val (.tup [(still p.lst).D, (⟨p.lst, p.lst⟩ : Wy).D]), .no, .no, .no, .no]) (k := k) (c2_ok (bin_ok rfl rfl rfl) rfl hs)
  rw [if_t sb]
  rfl
theorem judge_z (nz : p.nz) (b : p.Bd 10) (k : Nat) : F_judge_way [.lst [rowZ p 0, rowZ p 7]] k = some (waysD (still p.lst) ⟨p.lst, p.lst⟩, k) := by
  refine runB_ret ?_
  show S_judge_way [.val (.lst [rowZ p 0, rowZ p 7]), .no, .no] k = _
  rw [jw_eq, seq_nx (drop_ok (c1_ok rfl (check_z2 nz b)))]
  have f : sFor (dRng (dCons (dC (.int 1)) (dCons (dBin D.add (dBi bLen (dCons (dV 0) (dNil))) (dC (.int 1))) dNil))) (tgName 1) jwB [.val (.lst [rowZ p 0, rowZ p 7]), .no, .no] k = forLoop (tgName 1) jwB [.int 1, .int 2] [.val (.lst [rowZ p 0, rowZ p 7]), .no, .no] k := for_ok (rng_up3 (n := 2) (by decide) rfl rfl)
  have w1 := ways_z (k := k) (L := .lst [rowZ p 0]) (n := 0) nz b rfl rfl (seen_z1 nz b)
  have w2 := ways_z (k := k) (L := .lst [rowZ p 0, rowZ p 7]) (n := 7) nz b rfl rfl (seen_z2 nz b)
  have p1 : jwB [.val (.lst [rowZ p 0, rowZ p 7]), .val (.int 1), .no] k = _ := jw_go rfl w1 eq_nil2 (fun _ _ z => by cases z)
  have p2 : jwB [.val (.lst [rowZ p 0, rowZ p 7]), .val (.int 2), .no] k = _ := jw_go rfl w2 eq_nil2 (fun _ _ z => by cases z)
  rw [seq_nx (f.trans (for_nx rfl p1 (for_nx rfl p2 rfl)))]
  exact jw_ways w2
end
end Sky

end
section
namespace Sky
open PySem PySem.Spec PyProof.Rows L2
theorem zip_ok {f g : Sem} {ρ : Env} {k : Nat} {p q : Ve} (h1 : f ρ k = some (p.D, k)) (h2 : g ρ k = some (q.D, k)) : dZip (dCons f (dCons g dNil)) ρ k = some ([.tup [.int p.x, .int q.x], .tup [.int p.y, .int q.y], .tup [.int p.z, .int q.z]], k) := by
  simp only [dZip, dCons, dNil, M.bind, M.pure, h1, h2]
  rfl
theorem mem_rng {d : D} {n : Nat} (h : d ∈ rangeD 0 n) : ∃ i : Nat, i < n ∧ d = .int (i : Nat) := by
  unfold rangeD at h
  obtain ⟨i, hi, e⟩ := List.mem_map.mp h
  exact ⟨i, List.mem_range.mp hi, by rw [← e, Int.zero_add]⟩
theorem dir_cr0 {u v : Ve} (h : Dir u v) : u.cr v = ⟨0, 0, 0⟩ := by
  obtain ⟨a, b, ha, hb, e⟩ := h
  refine sm_can (a := a * b) (Int.mul_pos ha hb) ?_
  have e1 : Ve.sm (a * b) (u.cr v) = (Ve.sm a u).cr (Ve.sm b v) := (cr_sm a b u v).symm
  rw [e1, e, cr_self]
  simp [Ve.sm]
theorem at_nz {w : Wy} (h : (w.s.cr w.d).nz) (n : Int) : (w.at n).nz := by
  have e := at_cr w n (n + 1)
  rw [show n + 1 - n = 1 by omega, sm_one] at e
  exact cr_nz_l (by rw [e]; exact h)
theorem at_bd9 {w : Wy} {n : Int} (hs : w.s.Bd 3) (hd : w.d.Bd 2) (h0 : 0 ≤ n) (h1 : n < 64) : (w.at n).Bd 9 := by
  have hn : Sky.Bd 6 n := bd_of 63 (by omega) (by decide)
  exact ⟨(hs.a.mono (m := 8) (by decide)).add (hn.mul hd.a), (hs.b.mono (m := 8) (by decide)).add (hn.mul hd.b), (hs.c.mono (m := 8) (by decide)).add (hn.mul hd.c)⟩
theorem rng1 {n : Nat} (hn : n ≤ 99) : rng [.int ((n : Int) + 1)] = some (rangeD 0 (n + 1)) := by
  have o : okR ((n : Int) + 1) = true := by
    have e : (2 : Int) ^ 62 = 4611686018427387904 := rfl
    unfold okR
    rw [Bool.and_eq_true_iff, e]
    exact ⟨decide_eq_true (by omega), decide_eq_true (by omega)⟩
  have en : ((n : Int) + 1).toNat = n + 1 := by omega
  show (if okR ((n : Int) + 1) then some (rangeD 0 ((n : Int) + 1).toNat) else none) = _
  rw [o, en]
  rfl
def rowN (w v : Wy) (i : Nat) : D × D × D := (.int i, (w.at i).lst.D, (v.at i).lst.D)
def gN (w v : Wy) : D → D
  | .int i => .tup [.int i, (w.at i).lst.D, (v.at i).lst.D]
  | d => d
theorem nights_ok {w v : Wy} {b k n : Nat} {q : Bool} (hw : w.Bd b) (hv : v.Bd b) (hb : b < 5000) (hn : n ≤ 98) (hl : lim (n + 1) = true) (h : ∀ i : Nat, i ≤ n → (w.at i).nz ∧ (v.at i).nz ∧ decide ((w.at i).lst = (v.at i).lst) = q) :
    F_nights_alike [w.D, v.D, .int n] k = some (.tup (if q then (List.range (n + 1)).map (fun i : Nat => D.int i) else []), k) := by
  refine runB_ret ?_
  show S_nights_alike [.val w.D, .val v.D, .val (.int n), .no, .no, .no, .no] k = _
  unfold S_nights_alike
  rw [seq_nx (drop_ok (c1_ok rfl check_way_ok)), seq_nx (drop_ok (c1_ok rfl check_way_ok)), seq_nx (drop_ok (c4_ok rfl rfl rfl rfl (check_num (by omega) (by omega))))]
  have r0 : rangeD 0 (n + 1) = (List.range (n + 1)).map (fun i : Nat => D.int i) := by
    unfold rangeD
    congr 1
    funext i
    rw [Int.zero_add]
  have m1 : lcLoop (tgName 4) dTrue (dTup (dCons (dV 4) (dCons (dCall 2 F_seen (dCons (dV 0) (dCons (dV 4) (dNil)))) (dCons (dCall 2 F_seen (dCons (dV 1) (dCons (dV 4) (dNil)))) (dNil))))) (wipeE [.val w.D, .val v.D, .val (.int n), .no, .no, .no, .no] [4]) (rangeD 0 (n + 1)) k = some ((rangeD 0 (n + 1)).map (gN w v), k) :=
    lc_map _ fun d hd => by
      obtain ⟨i, hi, rfl⟩ := mem_rng hd
      obtain ⟨z1, z2, _⟩ := h i (by omega)
      exact tup3_ok rfl (c2_ok rfl rfl (seen_ok hw (by omega) (by omega) hb z1)) (c2_ok rfl rfl (seen_ok hv (by omega) (by omega) hb z2))
  have em : (rangeD 0 (n + 1)).map (gN w v) = ((List.range (n + 1)).map (rowN w v)).map (fun t => D.tup [t.1, t.2.1, t.2.2]) := by
    rw [r0, List.map_map, List.map_map]
    rfl
  rw [em] at m1
  have it : dRng (dCons (dBin D.add (dV 2) (dC (.int 1))) dNil) [.val w.D, .val v.D, .val (.int n), .no, .no, .no, .no] k = some (rangeD 0 (n + 1), k) := dRng_ok (cons1_ok (bin_ok (z := .int ((n : Int) + 1)) rfl rfl rfl)) (rng1 (by omega))
  have s1 : sAsg (dLc [4] (dRng (dCons (dBin D.add (dV 2) (dC (.int 1))) dNil)) (tgName 4) (dTrue) (dTup (dCons (dV 4) (dCons (dCall 2 F_seen (dCons (dV 0) (dCons (dV 4) (dNil)))) (dCons (dCall 2 F_seen (dCons (dV 1) (dCons (dV 4) (dNil)))) (dNil)))))) (tgName 3) [.val w.D, .val v.D, .val (.int n), .no, .no, .no, .no] k =
      some (.nx [.val w.D, .val v.D, .val (.int n), .val (.lst (((List.range (n + 1)).map (rowN w v)).map (fun t => D.tup [t.1, t.2.1, t.2.2]))), .no, .no, .no], k) :=
    asg_ok (lcg_ok it m1 (by rw [List.length_map, List.length_map, List.length_range]; exact hl))
  rw [seq_nx s1]
  refine seq_ret (ret_ok ?_)
  have m2 := lc_if (i := 4) (j := 5) (l := 6) (c := dAndB (dBinB cIsNot (dV 5) (dC .non)) (dEqB eqT false (dV 5) (dV 6))) (f := dV 4) (ρ := wipeE [.val w.D, .val v.D, .val (.int n), .val (.lst (((List.range (n + 1)).map (rowN w v)).map (fun t => D.tup [t.1, t.2.1, t.2.2]))), .no, .no, .no] [4, 5, 6]) (k := k) (p := fun _ => q) (g := fun t => t.1) ((List.range (n + 1)).map (rowN w v)) fun t ht => by
    obtain ⟨i, hi, rfl⟩ := List.mem_map.mp ht
    have hi' := List.mem_range.mp hi
    obtain ⟨z1, z2, e⟩ := h i (by omega)
    refine ⟨?_, rfl⟩
    have t2 := eqB_ve (neg := false) (f := dV 5) (g := dV 6) (ρ := (((wipeE [.val w.D, .val v.D, .val (.int n), .val (.lst (((List.range (n + 1)).map (rowN w v)).map (fun t => D.tup [t.1, t.2.1, t.2.2]))), .no, .no, .no] [4, 5, 6]).set 4 (.val (rowN w v i).1)).set 5 (.val (rowN w v i).2.1)).set 6 (.val (rowN w v i).2.2)) (k := k) (k1 := k) (k2 := k) (p := (w.at i).lst) (q := (v.at i).lst) rfl rfl
    rw [e, Bool.false_xor] at t2
    exact and_t (k1 := k) rfl t2
  have fl : (((List.range (n + 1)).map (rowN w v)).filter (fun _ => q)).map (fun t => t.1) = if q then (List.range (n + 1)).map (fun i : Nat => D.int i) else [] := by
    cases q with
    | true => rw [List.filter_eq_self.mpr (fun _ _ => rfl), List.map_map]; rfl
    | false => rw [List.filter_eq_nil_iff.mpr (fun _ _ => by decide)]; rfl
  rw [fl] at m2
  refine bi_ok (cons1_ok (lcg_ok (items_ok rfl rfl) m2 ?_)) rfl
  cases q with
  | true => rw [if_pos rfl, List.length_map, List.length_range]; exact hl
  | false => rfl
def sgOf (x : Int) : Int := if 0 < x then 1 else if x = 0 then 0 else -1
theorem side_ok {w : Wy} {p : Ve} {b k : Nat} (hw : w.Bd b) (hb : b < 500) (hp : Prim p) (bp : p.Bd 10) : F_side_of [w.D, p.D] k = some (.int (sgOf ((w.s.cr w.d).dot p)), k) := by
  have dt : F_det [w.s.D, w.d.D, p.D] k = some (.int ((w.s.cr w.d).dot p), k) := by
    have c1 : F_cross [w.s.D, w.d.D] k = some ((w.s.cr w.d).D, k) := crossB hw.1 hw.2 (by omega)
    have bc : (w.s.cr w.d).Bd (b + b + 1) := hw.1.cross hw.2
    have d1 := ve_dot (k := k) bc bp (by omega)
    refine runB_ret ?_
    show S_det [.val w.s.D, .val w.d.D, .val p.D] k = _
    unfold S_det
    exact seq_ret (ret_ok (c2_ok (c2_ok rfl rfl c1) rfl d1))
  refine runB_ret ?_
  show S_side_of [.val w.D, .val p.D, .no] k = _
  unfold S_side_of
  have t := not_ok (tru_ok (f := dCall 1 F_is_direction (dCons (dV 1) (dNil))) (ρ := [.val w.D, .val p.D, .no]) (k := k) (c1_ok rfl (direction_ok hp bp)))
  have s2 : sAsg (dCall 3 F_det (dCons (dBin D.ix (dV 0) (dC (.int 0))) (dCons (dBin D.ix (dV 0) (dC (.int 1))) (dCons (dV 1) (dNil))))) (tgName 2) [.val w.D, .val p.D, .no] k = some (.nx [.val w.D, .val p.D, .val (.int ((w.s.cr w.d).dot p))], k) := asg_ok (c3_ok (bin_ok rfl rfl rfl) (bin_ok rfl rfl rfl) rfl dt)
  rw [seq_nx (drop_ok (c1_ok rfl check_way_ok)), seq_nx ((sif_f t).trans rfl), seq_nx s2]
  generalize (w.s.cr w.d).dot p = x
  refine seq_ret (ret_ok ?_)
  have q1 : dBinB cGtA (dV 2) (dC (.int 0)) [.val w.D, .val p.D, .val (.int x)] k = some (decide (0 < x), k) := binB_ok rfl rfl rfl
  have q2 := eqB_ok (neg := false) (f := dV 2) (g := dC (.int 0)) (ρ := [.val w.D, .val p.D, .val (.int x)]) (k := k) (k1 := k) (k2 := k) (d := .int x) (e := .int 0) (fun _ _ z => by cases z) rfl rfl eq_int
  unfold sgOf
  by_cases c1 : 0 < x
  · rw [decide_eq_true c1] at q1
    rw [if_pos c1, if_t q1]; rfl
  · rw [decide_eq_false c1] at q1
    rw [if_neg c1, if_f q1]
    by_cases c2 : x = 0
    · rw [decide_eq_true c2] at q2
      rw [if_pos c2, if_t q2]; rfl
    · rw [decide_eq_false c2] at q2
      rw [if_neg c2, if_f q2]; rfl
def sh (w : Wy) (m : Int) : Wy := ⟨⟨w.s.x - m * w.d.x, w.s.y - m * w.d.y, w.s.z - m * w.d.z⟩, w.d⟩
theorem sh_at (w : Wy) (m n : Int) : (sh w m).at n = w.at (n - m) := by
  simp only [sh, Wy.at, Ve.mk.injEq]; refine ⟨?_, ?_, ?_⟩ <;> grind
theorem sh_cr (w : Wy) (m : Int) : (sh w m).s.cr (sh w m).d = w.s.cr w.d := by
  simp only [sh, Ve.cr, Ve.mk.injEq]; refine ⟨?_, ?_, ?_⟩ <;> grind
theorem sh_bd {w : Wy} {m : Int} (hs : w.s.Bd 3) (hd : w.d.Bd 2) (h0 : 0 ≤ m) (h1 : m ≤ 20) : (sh w m).Bd 8 := by
  have hm : Sky.Bd 5 m := bd_of 20 (by omega) (by decide)
  exact ⟨⟨(hs.a.mono (m := 7) (by decide)).sub (hm.mul hd.a), (hs.b.mono (m := 7) (by decide)).sub (hm.mul hd.b), (hs.c.mono (m := 7) (by decide)).sub (hm.mul hd.c)⟩, hd.mono (by decide)⟩
def cD (w : Wy) : D := if (w.s.cr w.d).nz then (w.s.cr w.d).lst.D else .non
theorem cD_self (w : Wy) : cEqP (cD w) (cD w) = some true ∧ ∀ c fs, cD w ≠ .ins c fs := by
  unfold cD
  by_cases nz : (w.s.cr w.d).nz
  · rw [if_pos nz]; exact ⟨eq_ve_self _, fun _ _ z => by cases z⟩
  · rw [if_neg nz]; exact ⟨non_self, fun _ _ z => by cases z⟩
end Sky

end
section
namespace Sky
open PySem PySem.Spec PyProof.Rows L2
-- ### nights with two bodies 
structure Nt where
  n : Int
  p : Ve
  q : Ve
abbrev Nt.D (t : Nt) : D := .tup [.int t.n, .lst [t.p.D, t.q.D]]
def Nt.pick (t : Nt) (b : Bool) : Rw := ⟨t.n, if b then t.q else t.p⟩
abbrev bi (b : Bool) : D := .int (if b then 1 else 0)
theorem pick_ix (t : Nt) (b : Bool) : D.ix (.lst [t.p.D, t.q.D]) (bi b) = some (t.pick b).p.D := by cases b <;> rfl
theorem putN {ρ : Env} {t : Nt} {b : Bool} : (tgTup 2 (tgsCons (tgTup 2 (tgsCons (tgName 2) (tgsCons (tgName 3) (tgsNil)))) (tgsCons (tgName 4) (tgsNil)))).put (.tup [t.D, bi b]) ρ = some (((ρ.set 2 (.val (.int t.n))).set 3 (.val (.lst [t.p.D, t.q.D]))).set 4 (.val (bi b))) := by
  simp only [tgTup, tgsCons, tgsNil, put_name, List.length_cons, List.length_nil, Nat.zero_add, Nat.reduceAdd, Nat.beq]
theorem of_step {t : Nt} {b : Bool} {k : Nat} {x y : D} : dTup (dCons (dV 2) (dCons (dBin D.ix (dV 3) (dV 4)) (dNil))) ((((wipeE [.val x, .val y, .no, .no, .no] [2, 3, 4]).set 2 (.val (.int t.n))).set 3 (.val (.lst [t.p.D, t.q.D]))).set 4 (.val (bi b))) k = some ((t.pick b).D, k) :=
  tup2_ok rfl (bin_ok rfl rfl (pick_ix t b))
theorem of2_ok {t u : Nt} {a b : Bool} {k : Nat} : F_sightings_of [.lst [t.D, u.D], .tup [bi a, bi b]] k = some (.lst [(t.pick a).D, (u.pick b).D], k) := by
  refine runB_ret ?_
  show S_sightings_of [.val (.lst [t.D, u.D]), .val (.tup [bi a, bi b]), .no, .no, .no] k = _
  unfold S_sightings_of
  exact seq_ret (ret_ok (lcg_ok (k1 := k) (ds := [.tup [t.D, bi a], .tup [u.D, bi b]]) rfl (lcg_put putN of_step (lcg_put putN of_step rfl)) rfl))
theorem of3_ok {t u v : Nt} {a b c : Bool} {k : Nat} : F_sightings_of [.lst [t.D, u.D, v.D], .tup [bi a, bi b, bi c]] k = some (.lst [(t.pick a).D, (u.pick b).D, (v.pick c).D], k) := by
  refine runB_ret ?_
  show S_sightings_of [.val (.lst [t.D, u.D, v.D]), .val (.tup [bi a, bi b, bi c]), .no, .no, .no] k = _
  unfold S_sightings_of
  exact seq_ret (ret_ok (lcg_ok (k1 := k) (ds := [.tup [t.D, bi a], .tup [u.D, bi b], .tup [v.D, bi c]]) rfl (lcg_put putN of_step (lcg_put putN of_step (lcg_put putN of_step rfl))) rfl))
-- ### which rows some way sees 
open Classical in
/-- some way sees these -/
noncomputable def okR3 (a b c : Rw) : Bool := decide (∃ w, seenB w [a, b, c] a.n c.n = true)
open Classical in
noncomputable def okR2 (a b : Rw) : Bool := decide (∃ w, seenB w [a, b] a.n b.n = true)
open Classical in
theorem ways2_ne {a b : Rw} (oa : a.Ok) (ob : b.Ok) (h : a.n < b.n) {f : Sem} {ρ : Env} {k : Nat} (hf : f ρ k = some (.lst [a.D, b.D], k)) : dEqB eqT true (dCall 1 F_ways_by (dCons f dNil)) (dTup dNil) ρ k = some (okR2 a b, k) := by
  obtain ⟨y, g, R⟩ := ways2_res oa ob h
  have c := c1_ok (F := F_ways_by) hf (g k)
  unfold okR2
  rcases res_or R with ⟨e, n⟩ | ⟨e, i, hw⟩
  · subst e
    rw [decide_eq_false (fun ⟨w, hw⟩ => by rw [n w] at hw; cases hw)]
    exact (eqB_ok (neg := true) (g := dTup dNil) (k2 := k) (fun _ _ z => by cases z) c rfl eq_nil0).trans rfl
  · rw [decide_eq_true hw]
    exact (eqB_ok (neg := true) (g := dTup dNil) (k2 := k) i c rfl e).trans rfl
open Classical in
theorem ways3_ne {a b c : Rw} (oa : a.Ok) (ob : b.Ok) (oc : c.Ok) (h1 : a.n < b.n) (h2 : b.n < c.n) {f : Sem} {ρ : Env} {k : Nat} (hf : f ρ k = some (.lst [a.D, b.D, c.D], k)) : dEqB eqT true (dCall 1 F_ways_by (dCons f dNil)) (dTup dNil) ρ k = some (okR3 a b c, k) := by
  obtain ⟨y, g, R⟩ := ways3_res oa ob oc h1 h2
  have cc := c1_ok (F := F_ways_by) hf (g k)
  unfold okR3
  rcases res_or R with ⟨e, n⟩ | ⟨e, i, hw⟩
  · subst e
    rw [decide_eq_false (fun ⟨w, hw⟩ => by rw [n w] at hw; cases hw)]
    exact (eqB_ok (neg := true) (g := dTup dNil) (k2 := k) (fun _ _ z => by cases z) cc rfl eq_nil0).trans rfl
  · rw [decide_eq_true hw]
    exact (eqB_ok (neg := true) (g := dTup dNil) (k2 := k) i cc rfl e).trans rfl
open Classical in
/-- what is seen by a way at three is seen at the first two -/
theorem ok3_ok2 {a b c : Rw} (oa : a.Ok) (ob : b.Ok) (oc : c.Ok) (h1 : a.n < b.n) (h2 : b.n < c.n) (h : okR3 a b c = true) : okR2 a b = true := by
  unfold okR3 at h
  unfold okR2
  obtain ⟨w, hw⟩ := of_decide_eq_true h
  refine decide_eq_true ?_
  rcases seen_cases oa ob oc h1 h2 hw with q | q
  · exact ⟨_, wyI_seen oa ob h1 (t := 1) (by decide) q.1⟩
  · refine ⟨still a.p, ?_⟩
    rw [seen_still oa.p]
    simp only [List.all_cons, List.all_nil]
    rw [decide_eq_true q.1]
    simp
open Classical in
/-- the other way round -/
theorem ok3_bk {a b c : Rw} (L : Int) : okR3 (rv L c) (rv L b) (rv L a) = okR3 a b c := by
  unfold okR3
  refine decide_eq_decide.mpr ⟨fun ⟨w, hw⟩ => ⟨bk w L, ?_⟩, fun ⟨w, hw⟩ => ⟨bk w L, ?_⟩⟩
  · have := seen3_bk (bk w L) L a b c
    rw [bk_bk] at this
    rw [← this]
    exact hw
  · rw [seen3_bk]
    exact hw
end Sky

end
section
namespace Sky
open PySem PySem.Spec PyProof.Rows L2
structure Nt.Ok (t : Nt) : Prop where
  l : 0 ≤ t.n
  h : t.n ≤ 99
  p : Prim t.p
  q : Prim t.q
  bp : t.p.Bd 10
  bq : t.q.Bd 10
  ne : t.p ≠ t.q
theorem Nt.Ok.pick {t : Nt} (o : t.Ok) (b : Bool) : (t.pick b).Ok := by
  cases b
  · exact ⟨o.l, o.h, o.p, o.bp⟩
  · exact ⟨o.l, o.h, o.q, o.bq⟩
theorem unlike2 {a b : List Int} (h : a ≠ b) : unlike [a, b] = 2 := by
  unfold unlike dedupI dedupI dedupI
  rw [if_neg (by simp [h]), if_neg (by simp)]
  rfl
theorem lenSet2 {p q : Ve} (h : p ≠ q) : D.lenSet (.lst [p.D, q.D]) = some (.int 2) := by
  have e : tupsI [p.D, q.D] = some [[p.x, p.y, p.z], [q.x, q.y, q.z]] := rfl
  have ne : [p.x, p.y, p.z] ≠ [q.x, q.y, q.z] := fun z => h (by
    simp only [List.cons.injEq, and_true] at z
    exact ve_ext z.1 z.2.1 z.2.2)
  simp only [D.lenSet, e]
  rw [unlike2 ne]
  rfl
theorem are_unlike_ok {t : Nt} {k : Nat} (o : t.Ok) : F_are_unlike [.lst [t.p.D, t.q.D]] k = some (.bl true, k) := by
  refine runB_ret ?_
  show S_are_unlike [.val (.lst [t.p.D, t.q.D]), .no] k = _
  unfold S_are_unlike
  have t1 : dCall 1 F_is_row (dCons (dV 0) (dNil)) [.val (.lst [t.p.D, t.q.D]), .no] k = some (.bl true, k) := c1_ok rfl is_row_lst
  have t2 : dNotB (dChain cLe cLe (dC (.int 1)) (dBi bLen (dCons (dV 0) (dNil))) (dC (.int 5))) [.val (.lst [t.p.D, t.q.D]), .no] k = some (false, k) := rfl
  have st : ∀ p : Ve, Prim p → p.Bd 10 → dCall 1 F_is_direction (dCons (dV 1) (dNil)) ([.val (.lst [t.p.D, t.q.D]), .no].set 1 (.val p.D)) k = some (.bl true, k) := fun p h b => c1_ok rfl (direction_ok h b)
  have t3 : dTru (dBi bAll (dCons (dLc [1] (dItems (dV 0)) (tgName 1) (dTrue) (dCall 1 F_is_direction (dCons (dV 1) (dNil)))) (dNil))) [.val (.lst [t.p.D, t.q.D]), .no] k = some (true, k) :=
    tru_ok (bi_ok (cons1_ok (lc_ok (items_ok rfl rfl) (lc_put (st _ o.p o.bp) (lc_put (st _ o.q o.bq) lc_nil)) rfl)) rfl)
  rw [seq_nx ((sif_f (or_f (not_ok (tru_ok t1)) (or_f t2 (not_ok t3)))).trans rfl)]
  have ls : ∀ p : Ve, Prim p → p.Bd 10 → dCall 1 F_least (dCons (dV 1) (dNil)) ([.val (.lst [t.p.D, t.q.D]), .no].set 1 (.val p.D)) k = some (p.D, k) := fun p h b => by
    have := lst_ok (k := k) (prim_nz h) b (by decide)
    rw [prim_lst h] at this
    exact c1_ok rfl this
  have e : dUn D.lenSet (dLc [1] (dItems (dV 0)) (tgName 1) (dTrue) (dCall 1 F_least (dCons (dV 1) (dNil)))) [.val (.lst [t.p.D, t.q.D]), .no] k = some (.int 2, k) :=
    un_ok (lc_ok (items_ok rfl rfl) (lc_put (ls _ o.p o.bp) (lc_put (ls _ o.q o.bq) lc_nil)) rfl) (lenSet2 o.ne)
  refine seq_ret (ret_ok ?_)
  have l : dBi bLen (dCons (dV 0) (dNil)) [.val (.lst [t.p.D, t.q.D]), .no] k = some (.int 2, k) := rfl
  have d : dEqD eqT false (.int 2) (.int 2) = M.lift (((cEqP (.int 2) (.int 2)).map (xor false)).map D.bl) := rfl
  simp only [dEq, M.bind, e, l, d, eq_int, Option.map, M.lift]
  rfl
end Sky

end
section
namespace Sky
open PySem PySem.Spec PyProof.Rows L2
abbrev cnB : SemS := (sSeq (sIf (dOrB (dNotB (dTru (dIsi .tuple (dV 3)))) (dOrB (dEqB eqT true (dBi bLen (dCons (dV 3) (dNil))) (dC (.int 2))) (dNotB (dTru (dCall 3 F_is_number (dCons (dBin D.ix (dV 3) (dC (.int 0))) (dCons (dBin D.add (dV 1) (dC (.int 1))) (dCons (dC (.int 99)) (dNil))))))))) (sFail) (sNext)) (sSeq (sIf (dOrB (dNotB (dTru (dCall 1 F_are_unlike (dCons (dBin D.ix (dV 3) (dC (.int 1))) (dNil))))) (dAndB (dBinB cGtA (dV 2) (dC (.int 0))) (dEqB eqT true (dBi bLen (dCons (dBin D.ix (dV 3) (dC (.int 1))) (dNil))) (dBi bLen (dCons (dBin D.ix (dBin D.ix (dV 0) (dC (.int 0))) (dC (.int 1))) (dNil)))))) (sFail) (sNext)) (sSeq (sAsg (dBin D.ix (dV 3) (dC (.int 0))) (tgName 1)) (sNext))))
theorem cn_step {t u : Nt} {L : List D} {last pl : Int} {k : Nat} (hl : last + 1 ≤ t.n) (o : t.Ok) : cnB [.val (.lst (u.D :: L)), .val (.int last), .val (.int pl), .val t.D] k = some (.nx [.val (.lst (u.D :: L)), .val (.int t.n), .val (.int pl), .val t.D], k) := by
  unfold cnB
  have a2 : dEqB eqT true (dBi bLen (dCons (dV 3) (dNil))) (dC (.int 2)) [.val (.lst (u.D :: L)), .val (.int last), .val (.int pl), .val t.D] k = some (false, k) := ne_int (i := 2) rfl rfl
  have a3 : dCall 3 F_is_number (dCons (dBin D.ix (dV 3) (dC (.int 0))) (dCons (dBin D.add (dV 1) (dC (.int 1))) (dCons (dC (.int 99)) (dNil)))) [.val (.lst (u.D :: L)), .val (.int last), .val (.int pl), .val t.D] k = some (.bl true, k) := c3_ok (bin_ok rfl rfl rfl) (bin_ok rfl rfl rfl) rfl (num_ok hl o.h)
  have a4 : dCall 1 F_are_unlike (dCons (dBin D.ix (dV 3) (dC (.int 1))) (dNil)) [.val (.lst (u.D :: L)), .val (.int last), .val (.int pl), .val t.D] k = some (.bl true, k) := c1_ok (bin_ok rfl rfl rfl) (are_unlike_ok o)
  have ix0 : D.ix (.lst (u.D :: L)) (.int 0) = some u.D := by
    show atI (u.D :: L) 0 = _
    unfold atI ixN
    simp
  have a5 : dEqB eqT true (dBi bLen (dCons (dBin D.ix (dV 3) (dC (.int 1))) (dNil))) (dBi bLen (dCons (dBin D.ix (dBin D.ix (dV 0) (dC (.int 0))) (dC (.int 1))) (dNil))) [.val (.lst (u.D :: L)), .val (.int last), .val (.int pl), .val t.D] k = some (false, k) :=
    ne_int (i := 2) rfl (bi_ok (cons1_ok (bin_ok (bin_ok rfl rfl ix0) rfl rfl)) rfl)
  have a6 : dBinB cGtA (dV 2) (dC (.int 0)) [.val (.lst (u.D :: L)), .val (.int last), .val (.int pl), .val t.D] k = some (decide (0 < pl), k) := binB_ok rfl rfl rfl
  have a7 := and_2f (f := dBinB cGtA (dV 2) (dC (.int 0))) a6 a5 rfl
  have s1 := sif_f (f := sFail) (g := sNext) (or_f (f := dNotB (dTru (dIsi .tuple (dV 3)))) (k1 := k) rfl (or_f a2 (not_ok (tru_ok a3))))
  have s2 := sif_f (f := sFail) (g := sNext) (or_f (not_ok (tru_ok a4)) a7)
  rw [seq_nx (s1.trans rfl), seq_nx (s2.trans rfl)]
  rfl
theorem check_nights_ok {t u v : Nt} {k : Nat} (ot : t.Ok) (ou : u.Ok) (ov : v.Ok) (h1 : t.n < u.n) (h2 : u.n < v.n) : F_check_nights [.lst [t.D, u.D, v.D]] k = some (.non, k) := by
  have e : S_check_nights (startE 4 [.lst [t.D, u.D, v.D]]) k = some (.nx [.val (.lst [t.D, u.D, v.D]), .val (.int v.n), .val (.int 2), .val v.D], k) := by
    show S_check_nights [.val (.lst [t.D, u.D, v.D]), .no, .no, .no] k = _
    unfold S_check_nights
    have t1 : dCall 1 F_is_row (dCons (dV 0) (dNil)) [.val (.lst [t.D, u.D, v.D]), .no, .no, .no] k = some (.bl true, k) := c1_ok rfl is_row_lst
    have t2 : dNotB (dChain cLe cLe (dC (.int 2)) (dBi bLen (dCons (dV 0) (dNil))) (dC (.int 5))) [.val (.lst [t.D, u.D, v.D]), .no, .no, .no] k = some (false, k) := rfl
    rw [seq_nx ((sif_f (or_f (not_ok (tru_ok t1)) t2)).trans rfl), seq_nx (ρ' := [.val (.lst [t.D, u.D, v.D]), .val (.int (-1)), .no, .no]) (k' := k) rfl]
    have lp : forLoop (tgTup 2 (tgsCons (tgName 2) (tgsCons (tgName 3) (tgsNil)))) cnB [.tup [.int 0, t.D], .tup [.int 1, u.D], .tup [.int 2, v.D]] [.val (.lst [t.D, u.D, v.D]), .val (.int (-1)), .no, .no] k = some (.nx [.val (.lst [t.D, u.D, v.D]), .val (.int v.n), .val (.int 2), .val v.D], k) :=
      for_nx (ρ1 := [.val (.lst [t.D, u.D, v.D]), .val (.int (-1)), .val (.int 0), .val t.D]) rfl (cn_step (by have := ot.l; omega) ot) (for_nx (ρ1 := [.val (.lst [t.D, u.D, v.D]), .val (.int t.n), .val (.int 1), .val u.D]) rfl (cn_step (by omega) ou) (for_nx (ρ1 := [.val (.lst [t.D, u.D, v.D]), .val (.int u.n), .val (.int 2), .val v.D]) rfl (cn_step (by omega) ov) rfl))
    rw [seq_nx (f := sFor (dEnumA (dV 0)) (tgTup 2 (tgsCons (tgName 2) (tgsCons (tgName 3) (tgsNil)))) cnB) ((for_ok (k' := k) (ds := [.tup [.int 0, t.D], .tup [.int 1, u.D], .tup [.int 2, v.D]]) rfl).trans lp)]
    rfl
  show runB 4 S_check_nights [.lst [t.D, u.D, v.D]] k = _
  simp only [runB, e]
end Sky

end
section
namespace Sky
open PySem PySem.Spec PyProof.Rows L2
theorem lc_filt {α : Type} {i : Nat} {c : SemB} {ρ : Env} {k : Nat} {g : α → D} {q : α → Bool} (hi : i < ρ.length) : ∀ (as : List α), (∀ a ∈ as, c (ρ.set i (.val (g a))) k = some (q a, k)) → lcLoop (tgName i) c (dV i) ρ (as.map g) k = some ((as.filter q).map g, k)
  | [], _ => rfl
  | a :: as, h => by
    have ih := lc_filt hi as fun x hx => h x (List.mem_cons_of_mem _ hx)
    have h1 := h a List.mem_cons_self
    have e : dV i (ρ.set i (.val (g a))) k = some (g a, k) := dv (ge hi) k
    rw [List.map_cons]
    cases hq : q a with
    | true =>
      rw [hq] at h1
      rw [List.filter_cons_of_pos hq, List.map_cons]
      simp only [lcLoop, put_name, M.bind, h1, e, ih, M.pure]
    | false =>
      rw [hq] at h1
      rw [List.filter_cons_of_neg (by rw [hq]; decide)]
      simp only [lcLoop, put_name, M.bind, h1, ih]
theorem lc2_two {α : Type} {i j : Nat} {it : SemL} {f : Sem} {ρ : Env} {k : Nat} {g : α → D} {h : α → Bool → D} : ∀ (as : List α), (∀ a ∈ as, it (ρ.set i (.val (g a))) k = some ([bi false, bi true], k) ∧ ∀ b, f ((wipeE (ρ.set i (.val (g a))) [j]).set j (.val (bi b))) k = some (h a b, k)) →
    lc2Loop (tgName i) dTrue it [j] (tgName j) dTrue f ρ (as.map g) k = some ((as.flatMap fun a => [(a, false), (a, true)]).map fun x => h x.1 x.2, k)
  | [], _ => rfl
  | a :: as, hh => by
    have ih := lc2_two as fun x hx => hh x (List.mem_cons_of_mem _ hx)
    obtain ⟨h1, h2⟩ := hh a List.mem_cons_self
    rw [List.map_cons]
    have l : lcLoop (tgName j) dTrue f (wipeE (ρ.set i (.val (g a))) [j]) [bi false, bi true] k = some ([h a false, h a true], k) := lc_put (h2 false) (lc_put (h2 true) lc_nil)
    have t : dTrue (ρ.set i (.val (g a))) k = some (true, k) := rfl
    simp only [lc2Loop, put_name, M.bind, t, h1, l, ih, M.pure]
    rfl
theorem lc2_ok {us vs : List Nat} {it0 it : SemL} {t t1 : Tg} {c c1 : SemB} {f : Sem} {ρ : Env} {ds xs : List D} {k k1 k2 : Nat} (h : it0 ρ k = some (ds, k1)) (hl : lc2Loop t c it vs t1 c1 f (wipeE ρ us) ds k1 = some (xs, k2)) (hx : lim xs.length = true) : dLc2 us it0 t c it vs t1 c1 f ρ k = some (.lst xs, k2) := by
  simp only [dLc2, M.bind, h, hl, M.lift, hx, if_true]
end Sky

end
section
namespace Sky
open PySem PySem.Spec PyProof.Rows L2
-- ### all_rows by three nights with two bodies 
abbrev P3 := (Bool × Bool) × Bool
abbrev r2D (x : Bool × Bool) : D := .tup [bi x.1, bi x.2]
abbrev r3D (x : P3) : D := .tup [bi x.1.1, bi x.1.2, bi x.2]
def two3 {α : Type} (L : List α) : List (α × Bool) := L.flatMap fun a => [(a, false), (a, true)]
def q4 (i : Bool) : List P3 := [((i, false), false), ((i, false), true), ((i, true), false), ((i, true), true)]
def rws (o : Bool → Bool → Bool → Bool) (i : Bool) : List P3 := (q4 i).filter fun x => o x.1.1 x.1.2 x.2
theorem rws_eq {o : Bool → Bool → Bool → Bool} {p : Bool → Bool → Bool} {i : Bool} (h : ∀ b c, o i b c = true → p i b = true) : (two3 ([(i, false), (i, true)].filter fun x => p x.1 x.2)).filter (fun x => o x.1.1 x.1.2 x.2) = rws o i := by
  have h1 := h false false
  have h2 := h false true
  have h3 := h true false
  have h4 := h true true
  cases e1 : p i false <;> cases e2 : p i true <;> cases e3 : o i false false <;> cases e4 : o i false true <;> cases e5 : o i true false <;> cases e6 : o i true true <;> simp_all [rws, q4, two3]
section
variable {t u v : Nt} {k : Nat}
abbrev arLate : Sem := dLc2 [6, 7] (dItems (dV 3)) (tgName 6) (dTrue) (dRng (dCons (dBi bLen (dCons (dBin D.ix (dBin D.ix (dV 0) (dC (.int 0))) (dC (.int 1))) (dNil))) dNil)) [7] (tgName 7) (dTrue) (dTup (dStar (dV 6) (dCons (dV 7) (dNil))))
abbrev arOk : SemB := dEqB eqT true (dCall 1 F_ways_by (dCons (dCall 2 F_sightings_of (dCons (dSl (dV 0) (dNoPart) (dPart (dBin D.add (dV 4) (dC (.int 1))))) (dCons (dV 6) (dNil)))) (dNil))) (dTup (dNil))
abbrev arKeep : Sem := dLc [6] (dItems (dV 5)) (tgName 6) arOk (dV 6)
abbrev arB : SemS := sSeq (sAsg arLate (tgName 5)) (sSeq (sAsg arKeep (tgName 3)) (sNext))
abbrev nts (t u v : Nt) : D := .lst [t.D, u.D, v.D]
theorem it2 {ρ : Env} (h : dV 0 ρ k = some (nts t u v, k)) : dRng (dCons (dBi bLen (dCons (dBin D.ix (dBin D.ix (dV 0) (dC (.int 0))) (dC (.int 1))) (dNil))) dNil) ρ k = some ([bi false, bi true], k) :=
  dRng_ok (cons1_ok (bi_ok (d := .int 2) (cons1_ok (bin_ok (z := .lst [t.p.D, t.q.D]) (bin_ok (z := t.D) h rfl rfl) rfl rfl)) rfl)) rfl
theorem star1 {ρ : Env} {a b d : D} (h1 : dV 6 ρ k = some (.tup [a], k)) (h2 : dV 7 ρ k = some (b, k)) (e : d = .tup [a, b]) : dTup (dStar (dV 6) (dCons (dV 7) (dNil))) ρ k = some (d, k) := by
  subst e
  have c := cons1_ok h2
  simp only [dTup, dStar, M.bind, h1, starD, c, M.pure]
  rfl
theorem star2 {ρ : Env} {a b c d : D} (h1 : dV 6 ρ k = some (.tup [a, c], k)) (h2 : dV 7 ρ k = some (b, k)) (e : d = .tup [a, c, b]) : dTup (dStar (dV 6) (dCons (dV 7) (dNil))) ρ k = some (d, k) := by
  subst e
  have c := cons1_ok h2
  simp only [dTup, dStar, M.bind, h1, starD, c, M.pure]
  rfl
theorem ar1 {i : Bool} {s1 s2 s5 : Slot} (ot : t.Ok) (ou : u.Ok) (h : t.n < u.n) : arB [.val (nts t u v), s1, s2, .val (.lst [.tup [bi i]]), .val (.int 1), s5, .no, .no] k =
    some (.nx [.val (nts t u v), s1, s2, .val (.lst (([(i, false), (i, true)].filter fun x => okR2 (t.pick x.1) (u.pick x.2)).map r2D)), .val (.int 1), .val (.lst ([(i, false), (i, true)].map r2D)), .no, .no], k) := by
  have l1 : arLate [.val (nts t u v), s1, s2, .val (.lst [.tup [bi i]]), .val (.int 1), s5, .no, .no] k = some (.lst ([(i, false), (i, true)].map r2D), k) :=
    lc2_ok (k1 := k) (ds := [()].map fun _ => .tup [bi i]) rfl (lc2_two (i := 6) (j := 7) (g := fun _ : Unit => .tup [bi i]) (h := fun _ b => r2D (i, b)) [()] fun a _ => ⟨it2 rfl, fun b => star1 rfl rfl rfl⟩) rfl
  have l2 : arKeep [.val (nts t u v), s1, s2, .val (.lst [.tup [bi i]]), .val (.int 1), .val (.lst ([(i, false), (i, true)].map r2D)), .no, .no] k = some (.lst (([(i, false), (i, true)].filter fun x => okR2 (t.pick x.1) (u.pick x.2)).map r2D), k) := by
    refine lcg_ok (k1 := k) (ds := [(i, false), (i, true)].map r2D) rfl (lc_filt (i := 6) (g := r2D) (q := fun x => okR2 (t.pick x.1) (u.pick x.2)) (by show 6 < 8; decide) _ fun a _ => ?_) ?_
    · exact ways2_ne (ot.pick _) (ou.pick _) h (c2_ok (d := .lst [t.D, u.D]) rfl rfl of2_ok)
    · rw [List.length_map]
      have : ([(i, false), (i, true)].filter fun x => okR2 (t.pick x.1) (u.pick x.2)).length ≤ 2 := List.length_filter_le _ _
      exact Nat.ble_eq.mpr (by omega)
  have a1 : sAsg arLate (tgName 5) [.val (nts t u v), s1, s2, .val (.lst [.tup [bi i]]), .val (.int 1), s5, .no, .no] k = some (.nx [.val (nts t u v), s1, s2, .val (.lst [.tup [bi i]]), .val (.int 1), .val (.lst ([(i, false), (i, true)].map r2D)), .no, .no], k) := asg_ok l1
  have a2 : sAsg arKeep (tgName 3) [.val (nts t u v), s1, s2, .val (.lst [.tup [bi i]]), .val (.int 1), .val (.lst ([(i, false), (i, true)].map r2D)), .no, .no] k = some (.nx [.val (nts t u v), s1, s2, .val (.lst (([(i, false), (i, true)].filter fun x => okR2 (t.pick x.1) (u.pick x.2)).map r2D)), .val (.int 1), .val (.lst ([(i, false), (i, true)].map r2D)), .no, .no], k) := asg_ok l2
  unfold arB
  rw [seq_nx a1, seq_nx a2]
  rfl
theorem len_two3 {α : Type} (L : List α) : (two3 L).length = 2 * L.length := by
  induction L with
  | nil => rfl
  | cons a L ih => simp only [two3, List.flatMap_cons, List.length_append, List.length_cons, List.length_nil] at ih ⊢; omega
theorem ar2 {L : List (Bool × Bool)} {s1 s2 s5 : Slot} (hL : L.length ≤ 2) (ot : t.Ok) (ou : u.Ok) (ov : v.Ok) (h : t.n < u.n) (h2 : u.n < v.n) : arB [.val (nts t u v), s1, s2, .val (.lst (L.map r2D)), .val (.int 2), s5, .no, .no] k =
    some (.nx [.val (nts t u v), s1, s2, .val (.lst (((two3 L).filter fun x => okR3 (t.pick x.1.1) (u.pick x.1.2) (v.pick x.2)).map r3D)), .val (.int 2), .val (.lst ((two3 L).map r3D)), .no, .no], k) := by
  have hl : ((two3 L).map r3D).length ≤ 4 := by rw [List.length_map, len_two3]; omega
  have l1 : arLate [.val (nts t u v), s1, s2, .val (.lst (L.map r2D)), .val (.int 2), s5, .no, .no] k = some (.lst ((two3 L).map r3D), k) := by
    refine lc2_ok (k1 := k) (ds := L.map r2D) rfl (lc2_two (i := 6) (j := 7) (g := r2D) (h := fun x b => r3D (x, b)) L fun a _ => ⟨it2 rfl, fun b => star2 rfl rfl rfl⟩) (Nat.ble_eq.mpr (Nat.le_trans hl (by decide)))
  have l2 : arKeep [.val (nts t u v), s1, s2, .val (.lst (L.map r2D)), .val (.int 2), .val (.lst ((two3 L).map r3D)), .no, .no] k = some (.lst (((two3 L).filter fun x => okR3 (t.pick x.1.1) (u.pick x.1.2) (v.pick x.2)).map r3D), k) := by
    refine lcg_ok (k1 := k) (ds := (two3 L).map r3D) rfl (lc_filt (i := 6) (g := r3D) (q := fun x => okR3 (t.pick x.1.1) (u.pick x.1.2) (v.pick x.2)) (by show 6 < 8; decide) _ fun a _ => ?_) ?_
    · exact ways3_ne (ot.pick _) (ou.pick _) (ov.pick _) h h2 (c2_ok (d := .lst [t.D, u.D, v.D]) rfl rfl of3_ok)
    · rw [List.length_map] at hl ⊢
      have : ((two3 L).filter fun x => okR3 (t.pick x.1.1) (u.pick x.1.2) (v.pick x.2)).length ≤ (two3 L).length := List.length_filter_le _ _
      exact Nat.ble_eq.mpr (by omega)
  have a1 : sAsg arLate (tgName 5) [.val (nts t u v), s1, s2, .val (.lst (L.map r2D)), .val (.int 2), s5, .no, .no] k = some (.nx [.val (nts t u v), s1, s2, .val (.lst (L.map r2D)), .val (.int 2), .val (.lst ((two3 L).map r3D)), .no, .no], k) := asg_ok l1
  have a2 : sAsg arKeep (tgName 3) [.val (nts t u v), s1, s2, .val (.lst (L.map r2D)), .val (.int 2), .val (.lst ((two3 L).map r3D)), .no, .no] k = some (.nx [.val (nts t u v), s1, s2, .val (.lst (((two3 L).filter fun x => okR3 (t.pick x.1.1) (u.pick x.1.2) (v.pick x.2)).map r3D)), .val (.int 2), .val (.lst ((two3 L).map r3D)), .no, .no], k) := asg_ok l2
  unfold arB
  rw [seq_nx a1, seq_nx a2]
  rfl
noncomputable def oo (t u v : Nt) (a b c : Bool) : Bool := okR3 (t.pick a) (u.pick b) (v.pick c)
abbrev arF : SemS := (sSeq (sAsg (dLst (dCons (dTup (dCons (dV 2) (dNil))) (dNil))) (tgName 3)) (sSeq (sFor (dRng (dCons (dC (.int 1)) (dCons (dBi bLen (dCons (dV 0) (dNil))) dNil))) (tgName 4) arB) (sSeq (sApp 1 (dV 3)) (sNext))))
theorem ar3 {i : Bool} {F : List D} {s3 s4 s5 : Slot} (hF : F.length < 10) (ot : t.Ok) (ou : u.Ok) (ov : v.Ok) (h : t.n < u.n) (h2 : u.n < v.n) : ∃ s4' s5', arF [.val (nts t u v), .own (.lst F), .val (bi i), s3, s4, s5, .no, .no] k =
    some (.nx [.val (nts t u v), .own (.lst (F ++ [.lst ((rws (oo t u v) i).map r3D)])), .val (bi i), .val (.lst ((rws (oo t u v) i).map r3D)), s4', s5', .no, .no], k) := by
  have p1 := ar1 (v := v) (k := k) (i := i) (s1 := .own (.lst F)) (s2 := .val (bi i)) (s5 := s5) ot ou h
  have hL : ([(i, false), (i, true)].filter fun x => okR2 (t.pick x.1) (u.pick x.2)).length ≤ 2 := List.length_filter_le _ _
  have p2 := ar2 (k := k) (s1 := .own (.lst F)) (s2 := .val (bi i)) (s5 := .val (.lst ([(i, false), (i, true)].map r2D))) hL ot ou ov h h2
  have e := rws_eq (o := oo t u v) (p := fun a b => okR2 (t.pick a) (u.pick b)) (i := i) fun b c z => ok3_ok2 (ot.pick _) (ou.pick _) (ov.pick _) h h2 z
  rw [show (fun x : P3 => okR3 (t.pick x.1.1) (u.pick x.1.2) (v.pick x.2)) = (fun x => oo t u v x.1.1 x.1.2 x.2) from rfl, e] at p2
  refine ⟨.val (.int 2), .val (.lst ((two3 ([(i, false), (i, true)].filter fun x => okR2 (t.pick x.1) (u.pick x.2))).map r3D)), ?_⟩
  unfold arF
  have a1 : sAsg (dLst (dCons (dTup (dCons (dV 2) (dNil))) (dNil))) (tgName 3) [.val (nts t u v), .own (.lst F), .val (bi i), s3, s4, s5, .no, .no] k = some (.nx [.val (nts t u v), .own (.lst F), .val (bi i), .val (.lst [.tup [bi i]]), s4, s5, .no, .no], k) := rfl
  rw [seq_nx a1]
  have lp := (for_ok (k' := k) (t := tgName 4) (b := arB) (ds := [.int 1, .int 2]) (ρ := [.val (nts t u v), .own (.lst F), .val (bi i), .val (.lst [.tup [bi i]]), s4, s5, .no, .no]) (it := dRng (dCons (dC (.int 1)) (dCons (dBi bLen (dCons (dV 0) (dNil))) dNil))) (k := k) (dRng_ok (cons2_ok rfl (bi_ok (d := .int 3) (cons1_ok rfl) rfl)) rfl)).trans (for_nx (ρ1 := [.val (nts t u v), .own (.lst F), .val (bi i), .val (.lst [.tup [bi i]]), .val (.int 1), s5, .no, .no]) rfl p1 (for_nx rfl p2 rfl))
  rw [seq_nx lp]
  generalize (rws (oo t u v) i).map r3D = R
  generalize (two3 ([(i, false), (i, true)].filter fun x => okR2 (t.pick x.1) (u.pick x.2))).map r3D = W
  have ap : sApp 1 (dV 3) [.val (nts t u v), .own (.lst F), .val (bi i), .val (.lst R), .val (.int 2), .val (.lst W), .no, .no] k = some (.nx [.val (nts t u v), .own (.lst (F ++ [.lst R])), .val (bi i), .val (.lst R), .val (.int 2), .val (.lst W), .no, .no], k) := by
    have c : F.length < 1000000 := by omega
    simp only [sApp, dV, M.bind, List.getElem?_cons_zero, List.getElem?_cons_succ, if_pos c, M.pure]
    rfl
  rw [seq_nx ap]
  rfl
theorem all_rows_ok (ot : t.Ok) (ou : u.Ok) (ov : v.Ok) (h : t.n < u.n) (h2 : u.n < v.n) : F_all_rows [nts t u v] k = some (.lst [.lst ((rws (oo t u v) false).map r3D), .lst ((rws (oo t u v) true).map r3D)], k) := by
  refine runB_ret ?_
  show S_all_rows [.val (nts t u v), .no, .no, .no, .no, .no, .no, .no] k = _
  unfold S_all_rows
  rw [seq_nx (ρ' := [.val (nts t u v), .own (.lst []), .no, .no, .no, .no, .no, .no]) (k' := k) rfl]
  obtain ⟨s4, s5, p1⟩ := ar3 (k := k) (i := false) (F := []) (s3 := .no) (s4 := .no) (s5 := .no) (by decide) ot ou ov h h2
  obtain ⟨s4', s5', p2⟩ := ar3 (k := k) (i := true) (F := [.lst ((rws (oo t u v) false).map r3D)]) (s3 := .val (.lst ((rws (oo t u v) false).map r3D))) (s4 := s4) (s5 := s5) (by simp) ot ou ov h h2
  have lp := (for_ok (k' := k) (t := tgName 2) (b := arF) (ds := [bi false, bi true]) (ρ := [.val (nts t u v), .own (.lst []), .no, .no, .no, .no, .no, .no]) (it := dRng (dCons (dBi bLen (dCons (dBin D.ix (dBin D.ix (dV 0) (dC (.int 0))) (dC (.int 1))) (dNil))) dNil)) (k := k) (it2 rfl)).trans (for_nx (ρ1 := [.val (nts t u v), .own (.lst []), .val (bi false), .no, .no, .no, .no, .no]) rfl p1 (for_nx rfl p2 rfl))
  rw [seq_nx lp]
  rfl
end
end Sky

end
section
namespace Sky
open PySem PySem.Spec PyProof.Rows L2
-- ### plain data held against an empty list 
def Pl (n : Nat) (d : D) : Prop := ∃ p, d.py = some p ∧ p.canLay0 = true ∧ p.depth ≤ n
theorem pl_int (n : Nat) (i : Int) : Pl n (.int i) := ⟨.int i, rfl, by simp only [PyData.canLay0], by simp only [PyData.depth]; omega⟩
theorem pls {n : Nat} : ∀ {xs : List D}, (∀ x ∈ xs, Pl n x) → ∃ ps, D.pys xs = some ps ∧ PyData.canLayAll0 ps = true ∧ PyData.depthAll ps ≤ n ∧ ps.length = xs.length
  | [], _ => ⟨[], by simp only [D.pys], by simp only [PyData.canLayAll0], by simp only [PyData.depthAll]; omega, rfl⟩
  | x :: xs, h => by
    obtain ⟨p, e1, c1, d1⟩ := h x List.mem_cons_self
    obtain ⟨ps, e2, c2, d2, l2⟩ := pls fun y hy => h y (List.mem_cons_of_mem _ hy)
    refine ⟨p :: ps, by simp only [D.pys, e1, e2], by simp only [PyData.canLayAll0, c1, c2, Bool.and_self], by simp only [PyData.depthAll]; omega, by simp only [List.length_cons, l2]⟩
theorem pl_tup {n : Nat} {xs : List D} (h : ∀ x ∈ xs, Pl n x) : Pl (n + 1) (.tup xs) := by
  obtain ⟨ps, e, c, d, _⟩ := pls h
  exact ⟨.tuple ps, by simp only [D.py, e, Option.map], by simp only [PyData.canLay0, c], by simp only [PyData.depth]; omega⟩
theorem pl_lst {n : Nat} {xs : List D} (h : ∀ x ∈ xs, Pl n x) : Pl (n + 1) (.lst xs) := by
  obtain ⟨ps, e, c, d, _⟩ := pls h
  exact ⟨.list ps, by simp only [D.py, e, Option.map], by simp only [PyData.canLay0, c], by simp only [PyData.depth]; omega⟩
theorem eq_nilL {n : Nat} {xs : List D} (hn : n ≤ 60) (h : ∀ x ∈ xs, Pl n x) : cEqP (.lst xs) (.lst []) = some (decide (xs = [])) := by
  obtain ⟨ps, e, c, d, l⟩ := pls h
  have s1 : SeqAt.shaped (.list ps) = true := by
    unfold SeqAt.shaped
    have c2 : PyData.canLay0 (.list ps) = true := by simp only [PyData.canLay0, c]
    have d2 : PyData.depth (.list ps) ≤ 64 := by simp only [PyData.depth]; omega
    rw [c2, decide_eq_true d2]
    rfl
  have s2 : SeqAt.shaped (.list []) = true := by decide +kernel
  have e1 : (D.lst xs).py = some (.list ps) := by simp only [D.py, e, Option.map]
  have e2 : (D.lst []).py = some (.list []) := by simp only [D.py, D.pys, Option.map]
  unfold cEqP
  simp only [e1, e2, s1, s2, Bool.and_self, if_true, PyData.eqv]
  cases xs with
  | nil => cases ps with
    | nil => simp only [PyData.eqvAll]; rfl
    | cons => cases l
  | cons => cases ps with
    | nil => cases l
    | cons => simp [PyData.eqvAll]
-- ### all ways on from a begin 
section
variable {α : Type} (R : List (List α)) (fr : List α → α → Bool)
def dfs : Nat → List α → List (List α)
  | 0, one => [one]
  | n + 1, one => ((R.getD one.length []).filter (fr one)).flatMap fun r => dfs n (one ++ [r])
def Stk (B : Nat) : Nat → List (List α) → Prop
  | 0, line => line.length ≤ B ∧ ∀ o ∈ line, o.length = 0
  | d + 1, line => ∃ a b, line = a ++ b ∧ a.length ≤ B ∧ (∀ o ∈ a, o.length = d + 1) ∧ Stk B d b
variable {R fr}
theorem Stk.len {B : Nat} : ∀ {d : Nat} {line : List (List α)}, Stk B d line → line.length ≤ (d + 1) * B
  | 0, _, h => by have := h.1; omega
  | d + 1, _, h => by
    obtain ⟨a, b, rfl, h1, _, h2⟩ := h
    have := h2.len
    rw [List.length_append, Nat.succ_mul]
    omega
theorem Stk.pop {B : Nat} {o : List α} {l : List (List α)} : ∀ {d : Nat}, Stk B d (o :: l) → o.length ≤ d ∧ Stk B o.length l
  | 0, h => by
    have e := h.2 o List.mem_cons_self
    rw [e]
    have := h.1
    rw [List.length_cons] at this
    exact ⟨Nat.le_refl _, by omega, fun x hx => h.2 x (List.mem_cons_of_mem _ hx)⟩
  | d + 1, h => by
    obtain ⟨a, b, e, h1, h3, h2⟩ := h
    cases a with
    | nil =>
      rw [List.nil_append] at e
      rw [← e] at h2
      obtain ⟨q1, q2⟩ := h2.pop
      exact ⟨by omega, q2⟩
    | cons x a =>
      rw [List.cons_append, List.cons.injEq] at e
      obtain ⟨rfl, rfl⟩ := e
      have e := h3 o List.mem_cons_self
      rw [e]
      rw [List.length_cons] at h1
      exact ⟨Nat.le_refl _, a, b, rfl, by omega, fun x hx => h3 x (List.mem_cons_of_mem _ hx), h2⟩
theorem Stk.push {B d : Nat} {a l : List (List α)} (h : Stk B d l) (h1 : a.length ≤ B) (h2 : ∀ o ∈ a, o.length = d + 1) : Stk B (d + 1) (a ++ l) := ⟨a, l, rfl, h1, h2, h⟩
/-- how many steps at most -/
def pot (B : Nat) : Nat → Nat
  | 0 => 1
  | n + 1 => 1 + B * pot B n
def tot (B N : Nat) : List (List α) → Nat
  | [] => 0
  | o :: l => pot B (N - o.length) + tot B N l
theorem tot_app {B N : Nat} (a b : List (List α)) : tot B N (a ++ b) = tot B N a + tot B N b := by
  induction a with
  | nil => simp [tot]
  | cons x a ih => simp only [List.cons_append, tot, ih]; omega
theorem tot_le {B N c : Nat} {a : List (List α)} (h : ∀ o ∈ a, pot B (N - o.length) ≤ c) : tot B N a ≤ a.length * c := by
  induction a with
  | nil => simp [tot]
  | cons x a ih =>
    have := ih fun o ho => h o (List.mem_cons_of_mem _ ho)
    have := h x List.mem_cons_self
    simp only [tot, List.length_cons, Nat.succ_mul]
    omega
end
-- ### sortings 
section
variable {α : Type} {R : List (List α)} {fr : List α → α → Bool} {rD : α → D} {k : Nat}
abbrev oneD (rD : α → D) (one : List α) : D := .tup (one.map rD)
abbrev rowsD (rD : α → D) (R : List (List α)) : D := .lst (R.map fun r => .lst (r.map rD))
abbrev soC : SemB := (dAndB (dEqB eqT true (dVR 4) (dLst (dNil))) (dBinB cLt (dBi bLen (dCons (dVR 3) (dNil))) (dV 1)))
abbrev soB : SemS := (sSeq (sPop0 4 5) (sSeq (sIf (dEqB eqT false (dBi bLen (dCons (dV 5) (dNil))) (dBi bLen (dCons (dV 2) (dNil)))) (sSeq (sApp 3 (dV 5)) (sSeq (sCnt) (sNext))) (sNext)) (sSeq (sOwnAdd (dLc [6] (dItems (dBin D.ix (dV 2) (dBi bLen (dCons (dV 5) (dNil))))) (tgName 6) (dTru (dCall 2 F_are_free (dCons (dV 5) (dCons (dV 6) (dNil))))) (dTup (dStar (dV 5) (dCons (dV 6) (dNil))))) (dVR 4) 4) (sSeq (sIf (dBinB cGtA (dBi bLen (dCons (dVR 4) (dNil))) (dC (.int 9999))) (sFail) (sNext)) (sNext)))))
abbrev soE (N : D) (most : Nat) (rD : α → D) (R : List (List α)) (found line : List (List α)) (s5 : Slot) : Env := [.val N, .val (.int most), .val (rowsD rD R), .own (.lst (found.map (oneD rD))), .own (.lst (line.map (oneD rD))), s5, .no]
theorem lc_fm {i : Nat} {c : SemB} {f : Sem} {ρ : Env} {g h : α → D} {q : α → Bool} : ∀ (as : List α), (∀ a ∈ as, c (ρ.set i (.val (g a))) k = some (q a, k) ∧ f (ρ.set i (.val (g a))) k = some (h a, k)) → lcLoop (tgName i) c f ρ (as.map g) k = some ((as.filter q).map h, k)
  | [], _ => rfl
  | a :: as, H => by
    have ih := lc_fm as fun x hx => H x (List.mem_cons_of_mem _ hx)
    obtain ⟨h1, h2⟩ := H a List.mem_cons_self
    rw [List.map_cons]
    cases hq : q a with
    | true =>
      rw [hq] at h1
      rw [List.filter_cons_of_pos hq, List.map_cons]
      simp only [lcLoop, put_name, M.bind, h1, h2, ih, M.pure]
    | false =>
      rw [hq] at h1
      rw [List.filter_cons_of_neg (by rw [hq]; decide)]
      simp only [lcLoop, put_name, M.bind, h1, ih]
theorem so_cond {N : D} {most : Nat} {found line : List (List α)} {s5 : Slot} (hP : ∀ r, Pl 9 (rD r)) : soC (soE N most rD R found line s5) k = some (!decide (line = []) && decide (found.length < most), k) := by
  have e1 : cEqP (.lst (line.map (oneD rD))) (.lst []) = some (decide (line = [])) := by
    rw [eq_nilL (n := 10) (by decide) fun x hx => ?_]
    · cases line <;> rfl
    · obtain ⟨o, _, rfl⟩ := List.mem_map.mp hx
      exact pl_tup fun y hy => by
        obtain ⟨r, _, rfl⟩ := List.mem_map.mp hy
        exact hP r
  have t1 := eqB_ok (neg := true) (f := dVR 4) (g := dLst dNil) (ρ := soE N most rD R found line s5) (k := k) (k1 := k) (k2 := k) (fun _ _ z => by cases z) rfl rfl e1
  rw [Bool.true_xor] at t1
  have t2 : dBinB cLt (dBi bLen (dCons (dVR 3) (dNil))) (dV 1) (soE N most rD R found line s5) k = some (decide (found.length < most), k) := by
    refine binB_ok (bi_ok (cons1_ok rfl) rfl) rfl ?_
    show some (decide (((found.map (oneD rD)).length : Int) < (most : Int))) = _
    rw [List.length_map]
    congr 1
    exact decide_eq_decide.mpr (by omega)
  cases line with
  | nil => exact and_f t1
  | cons o l => exact and_t t1 t2
theorem so_leaf {N : D} {most : Nat} {found l : List (List α)} {one : List α} {s5 : Slot} (hl : one.length = R.length) (hf : found.length < 1000000) : soB (soE N most rD R found (one :: l) s5) k = some (.cnt (soE N most rD R (found ++ [one]) l (.val (oneD rD one))), k) := by
  unfold soB
  have p : sPop0 4 5 (soE N most rD R found (one :: l) s5) k = some (.nx (soE N most rD R found l (.val (oneD rD one))), k) := rfl
  rw [seq_nx p]
  have t := eqB_ok (neg := false) (f := dBi bLen (dCons (dV 5) (dNil))) (g := dBi bLen (dCons (dV 2) (dNil))) (ρ := soE N most rD R found l (.val (oneD rD one))) (k := k) (k1 := k) (k2 := k) (d := .int (one.map rD).length) (e := .int (R.map fun r => D.lst (r.map rD)).length) (fun _ _ z => by cases z) rfl rfl eq_int
  rw [List.length_map, List.length_map, hl, decide_eq_true rfl] at t
  have ap : sApp 3 (dV 5) (soE N most rD R found l (.val (oneD rD one))) k = some (.nx (soE N most rD R (found ++ [one]) l (.val (oneD rD one))), k) := by
    have c : (found.map (oneD rD)).length < 1000000 := by rw [List.length_map]; exact hf
    have e : (found ++ [one]).map (oneD rD) = found.map (oneD rD) ++ [oneD rD one] := by rw [List.map_append]; rfl
    unfold soE
    rw [e]
    simp only [sApp, dV, M.bind, List.getElem?_cons_zero, List.getElem?_cons_succ, if_pos c, M.pure]
    rfl
  have i : sIf (dEqB eqT false (dBi bLen (dCons (dV 5) (dNil))) (dBi bLen (dCons (dV 2) (dNil)))) (sSeq (sApp 3 (dV 5)) (sSeq (sCnt) (sNext))) (sNext) (soE N most rD R found l (.val (oneD rD one))) k = some (.cnt (soE N most rD R (found ++ [one]) l (.val (oneD rD one))), k) := by
    rw [sif_t t, seq_nx ap]
    rfl
  simp only [sSeq, M.bind, i, M.pure]
theorem atI_nat {xs : List D} {i : Nat} {d : D} (h : xs[i]? = some d) : atI xs (i : Int) = some d := by
  have hl : i < xs.length := by
    rcases Nat.lt_or_ge i xs.length with z | z
    · exact z
    · rw [List.getElem?_eq_none z] at h; cases h
  unfold atI ixN
  rw [if_pos (by omega), if_pos (by omega)]
  simp only [Int.toNat_natCast]
  exact h
theorem so_node {N : D} {most : Nat} {found l : List (List α)} {one : List α} {s5 : Slot} (hl : one.length < R.length) (hfr : ∀ one r k, one.length < 1000 → F_are_free [oneD rD one, rD r] k = some (.bl (fr one r), k)) (h1 : ((R.getD one.length []).filter (fr one)).length + l.length ≤ 9999) (ho : one.length < 1000) :
    soB (soE N most rD R found (one :: l) s5) k = some (.nx (soE N most rD R found (((R.getD one.length []).filter (fr one)).map (fun r => one ++ [r]) ++ l) (.val (oneD rD one))), k) := by
  unfold soB
  have p : sPop0 4 5 (soE N most rD R found (one :: l) s5) k = some (.nx (soE N most rD R found l (.val (oneD rD one))), k) := rfl
  rw [seq_nx p]
  have t := eqB_ok (neg := false) (f := dBi bLen (dCons (dV 5) (dNil))) (g := dBi bLen (dCons (dV 2) (dNil))) (ρ := soE N most rD R found l (.val (oneD rD one))) (k := k) (k1 := k) (k2 := k) (d := .int (one.map rD).length) (e := .int (R.map fun r => D.lst (r.map rD)).length) (fun _ _ z => by cases z) rfl rfl eq_int
  rw [List.length_map, List.length_map, decide_eq_false (by omega)] at t
  rw [seq_nx ((sif_f t).trans rfl)]
  have ix : D.ix (rowsD rD R) (.int (one.map rD).length) = some (.lst ((R.getD one.length []).map rD)) := by
    show atI _ _ = _
    rw [List.length_map]
    refine atI_nat ?_
    rw [List.getElem?_map, List.getElem?_eq_getElem hl, List.getD_eq_getElem?_getD, List.getElem?_eq_getElem hl]
    rfl
  have lc : dLc [6] (dItems (dBin D.ix (dV 2) (dBi bLen (dCons (dV 5) (dNil))))) (tgName 6) (dTru (dCall 2 F_are_free (dCons (dV 5) (dCons (dV 6) (dNil))))) (dTup (dStar (dV 5) (dCons (dV 6) (dNil)))) (soE N most rD R found l (.val (oneD rD one))) k = some (.lst (((R.getD one.length []).filter (fr one)).map fun r => oneD rD (one ++ [r])), k) := by
    refine lcg_ok (k1 := k) (ds := (R.getD one.length []).map rD) (items_ok (bin_ok rfl rfl ix) rfl) (lc_fm (g := rD) (q := fr one) (h := fun r => oneD rD (one ++ [r])) _ fun r _ => ⟨?_, ?_⟩) ?_
    · exact tru_ok (c2_ok rfl rfl (hfr one r k ho))
    · have e : oneD rD (one ++ [r]) = .tup (one.map rD ++ [rD r]) := by unfold oneD; rw [List.map_append]; rfl
      have c : lim (one.map rD ++ [rD r]).length = true := Nat.ble_eq.mpr (by rw [List.length_append, List.length_map, List.length_cons, List.length_nil]; omega)
      rw [e]
      show M.lift (if lim (one.map rD ++ [rD r]).length then some (D.tup (one.map rD ++ [rD r])) else none) k = _
      rw [c]
      rfl
    · rw [List.length_map]
      exact Nat.ble_eq.mpr (by omega)
  have e2 : (((R.getD one.length []).filter (fr one)).map (fun r => one ++ [r]) ++ l).map (oneD rD) = ((R.getD one.length []).filter (fr one)).map (fun r => oneD rD (one ++ [r])) ++ l.map (oneD rD) := by
    rw [List.map_append, List.map_map]; rfl
  have oa : sOwnAdd (dLc [6] (dItems (dBin D.ix (dV 2) (dBi bLen (dCons (dV 5) (dNil))))) (tgName 6) (dTru (dCall 2 F_are_free (dCons (dV 5) (dCons (dV 6) (dNil))))) (dTup (dStar (dV 5) (dCons (dV 6) (dNil))))) (dVR 4) 4 (soE N most rD R found l (.val (oneD rD one))) k = some (.nx (soE N most rD R found (((R.getD one.length []).filter (fr one)).map (fun r => one ++ [r]) ++ l) (.val (oneD rD one))), k) := by
    have v4 : dVR 4 (soE N most rD R found l (.val (oneD rD one))) k = some (.lst (l.map (oneD rD)), k) := rfl
    have c : (((R.getD one.length []).filter (fr one)).map fun r => oneD rD (one ++ [r])).length + (l.map (oneD rD)).length ≤ 1000000 ∧ 4 < (soE N most rD R found l (.val (oneD rD one))).length := ⟨by rw [List.length_map, List.length_map]; omega, by simp [soE]⟩
    unfold soE at lc v4 c ⊢
    rw [e2]
    simp only [sOwnAdd, M.bind, lc, v4, if_pos c, M.pure]
    rfl
  rw [seq_nx oa]
  generalize hL : ((R.getD one.length []).filter (fr one)).map (fun r => one ++ [r]) ++ l = L
  have hLl : L.length ≤ 9999 := by rw [← hL, List.length_append, List.length_map]; exact h1
  have t2 : dBinB cGtA (dBi bLen (dCons (dVR 4) (dNil))) (dC (.int 9999)) (soE N most rD R found L (.val (oneD rD one))) k = some (false, k) := by
    refine binB_ok (bi_ok (cons1_ok rfl) rfl) rfl ?_
    show some (decide ((9999 : Int) < ((L.map (oneD rD)).length : Int))) = _
    rw [List.length_map, decide_eq_false (by omega)]
  rw [seq_nx ((sif_f t2).trans rfl)]
  rfl
theorem dfs_get {n : Nat} {one : List α} (h : R.length - one.length = n + 1) : dfs R fr (R.length - one.length) one = (((R.getD one.length []).filter (fr one)).map fun r => one ++ [r]).flatMap fun o => dfs R fr (R.length - o.length) o := by
  rw [h, List.flatMap_map]
  show (((R.getD one.length []).filter (fr one)).flatMap fun r => dfs R fr n (one ++ [r])) = _
  congr 1
  funext r
  congr 1
  rw [List.length_append, List.length_cons, List.length_nil]
  omega
/-- the loop -/
theorem so_loop {N : D} {most B : Nat} (hB : ∀ r ∈ R, r.length ≤ B) (hR : (R.length + 1) * B ≤ 9999) (hR2 : R.length < 1000) (hm : most < 10000) (hP : ∀ r, Pl 9 (rD r)) (hfr : ∀ one r k, one.length < 1000 → F_are_free [oneD rD one, rD r] k = some (.bl (fr one r), k)) :
    ∀ (n d : Nat) (line found : List (List α)) (s5 : Slot), Stk B d line → d ≤ R.length → found.length ≤ most → tot B R.length line < n →
      ∃ line' s5', whLoop soC soB n (soE N most rD R found line s5) k = some (.nx (soE N most rD R ((found ++ line.flatMap fun o => dfs R fr (R.length - o.length) o).take most) line' s5'), k)
  | 0, _, _, _, _, _, _, _, h => absurd h (Nat.not_lt_zero _)
  | n + 1, d, line, found, s5, hS, hd, hf, ht => by
    have c := so_cond (k := k) (N := N) (most := most) (R := R) (found := found) (line := line) (s5 := s5) hP
    cases line with
    | nil =>
      rw [decide_eq_true rfl] at c
      refine ⟨[], s5, ?_⟩
      have e : (found ++ ([] : List (List α)).flatMap fun o => dfs R fr (R.length - o.length) o).take most = found := by rw [List.flatMap_nil, List.append_nil, List.take_of_length_le hf]
      rw [e]
      simp only [whLoop, M.bind, c, Bool.not_true, Bool.false_and, M.pure]
    | cons one l =>
      rw [decide_eq_false (fun z => by cases z)] at c
      by_cases hm2 : found.length < most
      · rw [decide_eq_true hm2] at c
        obtain ⟨ho, hS2⟩ := hS.pop
        simp only [tot] at ht
        by_cases hl : one.length = R.length
        · have b := so_leaf (N := N) (most := most) (rD := rD) (k := k) (l := l) (found := found) (s5 := s5) hl (by omega)
          have hp : pot B (R.length - one.length) = 1 := by rw [hl, Nat.sub_self]; rfl
          obtain ⟨line', s5', ih⟩ := so_loop hB hR hR2 hm hP hfr n one.length l (found ++ [one]) (.val (oneD rD one)) hS2 (by omega) (by rw [List.length_append, List.length_cons, List.length_nil]; omega) (by omega)
          refine ⟨line', s5', ?_⟩
          have e : (found ++ (one :: l).flatMap fun o => dfs R fr (R.length - o.length) o) = (found ++ [one]) ++ l.flatMap fun o => dfs R fr (R.length - o.length) o := by
            rw [List.flatMap_cons, hl, Nat.sub_self, List.append_assoc]; rfl
          rw [e, ← ih]
          simp only [whLoop, M.bind, c, b, Bool.not_false, Bool.true_and]
        · have hlt : one.length < R.length := by omega
          have hmem : R.getD one.length [] ∈ R := by
            rw [List.getD_eq_getElem?_getD, List.getElem?_eq_getElem hlt]
            exact List.getElem_mem hlt
          have hk : ((R.getD one.length []).filter (fr one)).length ≤ B := Nat.le_trans (List.length_filter_le _ _) (hB _ hmem)
          have hS3 := hS2.push (a := ((R.getD one.length []).filter (fr one)).map fun r => one ++ [r]) (by rw [List.length_map]; exact hk) (fun o ho => by
            obtain ⟨r, _, rfl⟩ := List.mem_map.mp ho
            rw [List.length_append]; rfl)
          have hlen := hS3.len
          rw [List.length_append, List.length_map] at hlen
          have hle : (one.length + 1 + 1) * B ≤ (R.length + 1) * B := Nat.mul_le_mul_right _ (by omega)
          have b := so_node (N := N) (most := most) (rD := rD) (k := k) (l := l) (found := found) (s5 := s5) hlt hfr (by omega) (by omega)
          obtain ⟨m, hmn⟩ : ∃ m, R.length - one.length = m + 1 := ⟨R.length - one.length - 1, by omega⟩
          have hpot : tot B R.length (((R.getD one.length []).filter (fr one)).map fun r => one ++ [r]) ≤ B * pot B m := by
            refine Nat.le_trans (tot_le (c := pot B m) fun o ho => ?_) ?_
            · obtain ⟨r, _, rfl⟩ := List.mem_map.mp ho
              rw [List.length_append, List.length_cons, List.length_nil, show R.length - (one.length + (0 + 1)) = m by omega]
              exact Nat.le_refl _
            · rw [List.length_map]; exact Nat.mul_le_mul_right _ hk
          rw [hmn] at ht
          simp only [pot] at ht
          obtain ⟨line', s5', ih⟩ := so_loop hB hR hR2 hm hP hfr n (one.length + 1) _ found (.val (oneD rD one)) hS3 (by omega) hf (by rw [tot_app]; omega)
          refine ⟨line', s5', ?_⟩
          have e : (one :: l).flatMap (fun o => dfs R fr (R.length - o.length) o) = (((R.getD one.length []).filter (fr one)).map (fun r => one ++ [r]) ++ l).flatMap fun o => dfs R fr (R.length - o.length) o := by
            rw [List.flatMap_cons, List.flatMap_append, dfs_get hmn]
          rw [e, ← ih]
          simp only [whLoop, M.bind, c, b, Bool.not_false, Bool.true_and]
      · rw [decide_eq_false hm2] at c
        refine ⟨one :: l, s5, ?_⟩
        have e : (found ++ (one :: l).flatMap fun o => dfs R fr (R.length - o.length) o).take most = found := by
          have : found.length = most := by omega
          rw [← this, List.take_left]
        rw [e]
        simp only [whLoop, M.bind, c, Bool.and_false, M.pure]
end
end Sky

end
section
namespace Sky
open PySem PySem.Spec PyProof.Rows L2
-- ### are_free, two bodies and three nights 
def fr3 (one : List P3) (r : P3) : Bool := !(one.flatMap fun a => [a.1.1 == r.1.1, a.1.2 == r.1.2, a.2 == r.2]).any id
theorem bools_map : ∀ bs : List Bool, boolsD (bs.map D.bl) = some bs
  | [] => rfl
  | b :: bs => by simp only [List.map_cons, boolsD, bools_map bs, Option.map]
theorem lc2_flat {α : Type} {i : Nat} {it : SemL} {vs : List Nat} {t1 : Tg} {f : Sem} {ρ : Env} {k : Nat} {g : α → D} {h : α → List D} : ∀ (as : List α), (∀ a ∈ as, ∃ es, it (ρ.set i (.val (g a))) k = some (es, k) ∧ lcLoop t1 dTrue f (wipeE (ρ.set i (.val (g a))) vs) es k = some (h a, k)) →
    lc2Loop (tgName i) dTrue it vs t1 dTrue f ρ (as.map g) k = some (as.flatMap h, k)
  | [], _ => rfl
  | a :: as, hh => by
    have ih := lc2_flat as fun x hx => hh x (List.mem_cons_of_mem _ hx)
    obtain ⟨es, h1, h2⟩ := hh a List.mem_cons_self
    rw [List.map_cons, List.flatMap_cons]
    have t : dTrue (ρ.set i (.val (g a))) k = some (true, k) := rfl
    simp only [lc2Loop, put_name, M.bind, t, h1, h2, ih, M.pure]
theorem intV {f g : Sem} {neg : Bool} {ρ : Env} {k k1 k2 : Nat} {p q : Int} (h : f ρ k = some (.int p, k1)) (h1 : g ρ k1 = some (.int q, k2)) : dEq eqT neg f g ρ k = some (.bl (xor neg (decide (p = q))), k2) := by
  have : dEqD eqT neg (.int p) (.int q) = M.lift (((cEqP (.int p) (.int q)).map (xor neg)).map D.bl) := rfl
  simp only [dEq, M.bind, h, h1, this, eq_int, Option.map, M.lift]
theorem bi_eq (a b : Bool) : decide ((if a then (1 : Int) else 0) = if b then 1 else 0) = (a == b) := by cases a <;> cases b <;> rfl
theorem free3_ok (one : List P3) (r : P3) (k : Nat) (ho : one.length < 1000) : F_are_free [oneD r3D one, r3D r] k = some (.bl (fr3 one r), k) := by
  refine runB_ret ?_
  show S_are_free [.val (oneD r3D one), .val (r3D r), .no, .no, .no] k = _
  unfold S_are_free
  have l : dLc2 [2, 3, 4] (dItems (dV 0)) (tgName 2) (dTrue) (dZip (dCons (dV 2) (dCons (dV 1) (dNil)))) [3, 4] (tgTup 2 (tgsCons (tgName 3) (tgsCons (tgName 4) (tgsNil)))) (dTrue) (dEq eqT false (dV 3) (dV 4)) [.val (oneD r3D one), .val (r3D r), .no, .no, .no] k =
      some (.lst ((one.flatMap fun a => [a.1.1 == r.1.1, a.1.2 == r.1.2, a.2 == r.2]).map D.bl), k) := by
    have e : (one.flatMap fun a => [a.1.1 == r.1.1, a.1.2 == r.1.2, a.2 == r.2]).map D.bl = one.flatMap fun a => [D.bl (a.1.1 == r.1.1), D.bl (a.1.2 == r.1.2), D.bl (a.2 == r.2)] := by
      rw [List.map_flatMap]; rfl
    rw [e]
    refine lc2_ok (k1 := k) (ds := one.map r3D) rfl (lc2_flat (i := 2) (g := r3D) (h := fun a => [D.bl (a.1.1 == r.1.1), D.bl (a.1.2 == r.1.2), D.bl (a.2 == r.2)]) one fun a _ => ⟨[.tup [bi a.1.1, bi r.1.1], .tup [bi a.1.2, bi r.1.2], .tup [bi a.2, bi r.2]], rfl, ?_⟩) ?_
    · have st : ∀ x y : Bool, dEq eqT false (dV 3) (dV 4) ((((wipeE ((wipeE [.val (oneD r3D one), .val (r3D r), .no, .no, .no] [2, 3, 4]).set 2 (.val (r3D a))) [3, 4]).set 3 (.val (bi x))).set 4 (.val (bi y)))) k = some (.bl (x == y), k) := fun x y => by
        have z := intV (neg := false) (f := dV 3) (g := dV 4) (ρ := (((wipeE ((wipeE [.val (oneD r3D one), .val (r3D r), .no, .no, .no] [2, 3, 4]).set 2 (.val (r3D a))) [3, 4]).set 3 (.val (bi x))).set 4 (.val (bi y)))) (k := k) (k1 := k) (k2 := k) (p := if x then 1 else 0) (q := if y then 1 else 0) rfl rfl
        rw [Bool.false_xor, bi_eq] at z
        exact z
      exact lcg_put put2 (st _ _) (lcg_put put2 (st _ _) (lcg_put put2 (st _ _) rfl))
    · have : (one.flatMap fun a => [D.bl (a.1.1 == r.1.1), D.bl (a.1.2 == r.1.2), D.bl (a.2 == r.2)]).length = 3 * one.length := by
        clear e
        induction one with
        | nil => rfl
        | cons a L ih => rw [List.flatMap_cons, List.length_append, ih (by simp only [List.length_cons] at ho; omega)]; simp only [List.length_cons, List.length_nil]; omega
      rw [this]
      exact Nat.ble_eq.mpr (by omega)
  refine seq_ret (ret_ok (notV_ok (bi_ok (cons1_ok l) ?_)))
  show (boolsD _).map _ = _
  rw [bools_map]
  rfl
-- ### sortings, two bodies and three nights 
def solR (o : Bool → Bool → Bool → Bool) : List (List P3) := [rws o false, rws o true]
def sol (o : Bool → Bool → Bool → Bool) : List (List P3) := dfs (solR o) fr3 2 []
theorem pl3 (r : P3) : Pl 9 (r3D r) := pl_tup (n := 8) fun x hx => by
  rcases List.mem_cons.mp hx with rfl | hx
  · exact pl_int _ _
  · rcases List.mem_cons.mp hx with rfl | hx
    · exact pl_int _ _
    · rw [List.mem_singleton.mp hx]; exact pl_int _ _
theorem rws_len (o : Bool → Bool → Bool → Bool) (i : Bool) : (rws o i).length ≤ 4 := List.length_filter_le _ _
section
variable {t u v : Nt} {k : Nat}
theorem sortings_ok {most : Nat} (h1 : 1 ≤ most) (h9 : most ≤ 999) (ot : t.Ok) (ou : u.Ok) (ov : v.Ok) (h : t.n < u.n) (h2 : u.n < v.n) : F_sortings [nts t u v, .int most] k = some (.lst (((sol (oo t u v)).take most).map (oneD r3D)), k) := by
  refine runB_ret ?_
  show S_sortings [.val (nts t u v), .val (.int most), .no, .no, .no, .no, .no] k = _
  unfold S_sortings
  rw [seq_nx (drop_ok (c1_ok rfl (check_nights_ok ot ou ov h h2)))]
  have t1 := not_ok (tru_ok (f := dCall 3 F_is_number (dCons (dV 1) (dCons (dC (.int 1)) (dCons (dC (.int 999)) (dNil))))) (ρ := [.val (nts t u v), .val (.int most), .no, .no, .no, .no, .no]) (k := k) (c3_ok rfl rfl rfl (num_ok (by omega) (by omega))))
  rw [seq_nx ((sif_f t1).trans rfl)]
  have ar : dCall 1 F_all_rows (dCons (dV 0) (dNil)) [.val (nts t u v), .val (.int most), .no, .no, .no, .no, .no] k = some (rowsD r3D (solR (oo t u v)), k) := c1_ok rfl (all_rows_ok ot ou ov h h2)
  have p : sPar3o 2 3 4 (dCall 1 F_all_rows (dCons (dV 0) (dNil))) (dNil) (dCons (dTup (dNil)) (dNil)) [.val (nts t u v), .val (.int most), .no, .no, .no, .no, .no] k = some (.nx (soE (nts t u v) most r3D (solR (oo t u v)) [] [[]] .no), k) := by
    have g1 : dNil [.val (nts t u v), .val (.int most), .no, .no, .no, .no, .no] k = some ([], k) := rfl
    have g2 : (dCons (dTup (dNil)) (dNil)) [.val (nts t u v), .val (.int most), .no, .no, .no, .no, .no] k = some ([.tup []], k) := rfl
    have c : (([] : List D).length ≤ 1000000 ∧ ([D.tup []] : List D).length ≤ 1000000) ∧ (2 < ([.val (nts t u v), .val (.int most), .no, .no, .no, .no, .no] : Env).length ∧ 3 < ([.val (nts t u v), .val (.int most), .no, .no, .no, .no, .no] : Env).length ∧ 4 < ([.val (nts t u v), .val (.int most), .no, .no, .no, .no, .no] : Env).length) ∧ ((2 : Nat) ≠ 3 ∧ (2 : Nat) ≠ 4 ∧ (3 : Nat) ≠ 4) := by simp
    simp only [sPar3o, M.bind, ar, g1, g2, if_pos c, M.pure]
    rfl
  rw [seq_nx p]
  have hB : ∀ r ∈ solR (oo t u v), r.length ≤ 4 := fun r hr => by
    rcases List.mem_cons.mp hr with rfl | hr
    · exact rws_len _ _
    · rw [List.mem_singleton.mp hr]; exact rws_len _ _
  obtain ⟨line', s5', w⟩ := so_loop (k := k) (N := nts t u v) (most := most) (B := 4) hB (show (2 + 1) * 4 ≤ 9999 by decide) (show 2 < 1000 by decide) (by omega) pl3 free3_ok 100000 0 [[]] [] .no ⟨by decide, fun o ho => by rw [List.mem_singleton.mp ho]; rfl⟩ (Nat.zero_le _) (Nat.zero_le _) (show 21 + 0 < 100000 by decide)
  have e : (([] : List (List P3)) ++ [[]].flatMap fun o => dfs (solR (oo t u v)) fr3 ((solR (oo t u v)).length - o.length) o) = sol (oo t u v) := by
    rw [List.nil_append, List.flatMap_cons, List.flatMap_nil, List.append_nil]; rfl
  rw [e] at w
  have w' : sWh (fuelN 100000) soC soB (soE (nts t u v) most r3D (solR (oo t u v)) [] [[]] .no) k = _ := w
  rw [seq_nx w']
  rfl
end
-- ### how many 
def tab (x0 x1 x2 x3 x4 x5 x6 x7 a b c : Bool) : Bool := bif a then (bif b then (bif c then x7 else x6) else (bif c then x5 else x4)) else (bif b then (bif c then x3 else x2) else (bif c then x1 else x0))
theorem tab_eq (o : Bool → Bool → Bool → Bool) : o = tab (o false false false) (o false false true) (o false true false) (o false true true) (o true false false) (o true false true) (o true true false) (o true true true) := by
  funext a b c
  cases a <;> cases b <;> cases c <;> rfl
theorem sol_dec : ∀ x0 x1 x2 x3 x4 x5 x6 x7 : Bool, (sol fun a b c => tab x0 x1 x2 x3 x4 x5 x6 x7 c b a).length = (sol (tab x0 x1 x2 x3 x4 x5 x6 x7)).length ∧ (sol (tab x0 x1 x2 x3 x4 x5 x6 x7)).length ≤ 4 := by decide +kernel
theorem sol_rv (o : Bool → Bool → Bool → Bool) : (sol fun a b c => o c b a).length = (sol o).length ∧ (sol o).length ≤ 4 := by
  have h := sol_dec (o false false false) (o false false true) (o false true false) (o false true true) (o true false false) (o true false true) (o true true false) (o true true true)
  rw [← tab_eq o] at h
  exact h
theorem sol_two {o : Bool → Bool → Bool → Bool} {x : List P3} (h : x ∈ sol o) : ∃ a b, x = [a, b] := by
  unfold sol dfs dfs dfs at h
  obtain ⟨a, _, h⟩ := List.mem_flatMap.mp h
  obtain ⟨b, _, h⟩ := List.mem_flatMap.mp h
  rw [List.mem_singleton] at h
  exact ⟨a, b, h⟩
theorem oo_rv (L : Int) (t u v : Nt) : (oo ⟨L - v.n, v.p, v.q⟩ ⟨L - u.n, u.p, u.q⟩ ⟨L - t.n, t.p, t.q⟩) = fun a b c => oo t u v c b a := by
  funext a b c
  exact ok3_bk L (a := t.pick c) (b := u.pick b) (c := v.pick a)
-- ### judge_apart 
section
variable {t u v : Nt} {k : Nat}
theorem apart_ok {f : Sem} {ρ : Env} (ot : t.Ok) (ou : u.Ok) (ov : v.Ok) (h : t.n < u.n) (h2 : u.n < v.n) (hf : f ρ k = some (nts t u v, k)) : dBoI boT (dCall 1 F_judge_apart (dCons f dNil)) ρ k = some (.bl (decide ((sol (oo t u v)).length = 1)), k) := by
  have so := sortings_ok (k := k) (most := 2) (by decide) (by decide) ot ou ov h h2
  have key : ∃ c fs F, boT c = some F ∧ F_judge_apart [nts t u v] k = some (.ins c fs, k) ∧ F [.ins c fs] k = some (.bl (decide ((sol (oo t u v)).length = 1)), k) := by
    have a1 : sAsg (dCall 2 F_sortings (dCons (dV 0) (dCons (dC (.int 2)) (dNil)))) (tgName 1) [.val (nts t u v), .no] k = some (.nx [.val (nts t u v), .val (.lst (((sol (oo t u v)).take 2).map (oneD r3D)))], k) := asg_ok (c2_ok rfl rfl so)
    have hp : ∀ x ∈ ((sol (oo t u v)).take 2).map (oneD r3D), Pl 10 x := fun x hx => by
      obtain ⟨o, _, rfl⟩ := List.mem_map.mp hx
      exact pl_tup fun y hy => by
        obtain ⟨r, _, rfl⟩ := List.mem_map.mp hy
        exact pl3 r
    have t1 := eqB_ok (neg := false) (f := dV 1) (g := dLst dNil) (ρ := [.val (nts t u v), .val (.lst (((sol (oo t u v)).take 2).map (oneD r3D)))]) (k := k) (k1 := k) (k2 := k) (fun _ _ z => by cases z) rfl rfl (eq_nilL (by decide) hp)
    have hd : ∀ d, S_judge_apart [.val (nts t u v), .no] k = some (.ret d, k) → F_judge_apart [nts t u v] k = some (d, k) := fun d h => runB_ret h
    have two := fun x hx => sol_two (o := oo t u v) (x := x) hx
    unfold S_judge_apart at hd
    rw [seq_nx a1] at hd
    rcases hs : sol (oo t u v) with _ | ⟨x, _ | ⟨y, L⟩⟩
    · rw [hs] at t1 hd
      exact ⟨.NoBodies, [], _, rfl, hd _ (seq_ret ((sif_t t1).trans rfl)), rfl⟩
    · obtain ⟨a, b, rfl⟩ := two x (by rw [hs]; exact List.mem_cons_self)
      rw [hs] at t1 hd
      refine ⟨.Apart, [.tup [r3D a, r3D b]], _, rfl, hd _ ((seq_nx ((sif_f t1).trans rfl)).trans (seq_ret (ret_ok ?_))), rfl⟩
      have t2 : dEqB eqT false (dBi bLen (dCons (dV 1) (dNil))) (dC (.int 1)) [.val (nts t u v), .val (.lst ((([[a, b]] : List (List P3)).take 2).map (oneD r3D)))] k = some (true, k) := (eqB_ok (neg := false) (d := .int 1) (e := .int 1) (k2 := k) (fun _ _ z => by cases z) rfl rfl eq_int).trans rfl
      rw [if_t t2]
      exact make_ok (c := .Apart) (fs := [.tup [r3D a, r3D b]]) (cons1_ok (bin_ok rfl rfl rfl)) rfl rfl rfl
    · obtain ⟨a, b, rfl⟩ := two x (by rw [hs]; exact List.mem_cons_self)
      obtain ⟨c, d, rfl⟩ := two y (by rw [hs]; exact List.mem_cons_of_mem _ List.mem_cons_self)
      rw [hs] at t1 hd
      have en : decide (([a, b] :: [c, d] :: L).length = 1) = false := rfl
      rw [en]
      refine ⟨.Mixed, [.tup [r3D a, r3D b], .tup [r3D c, r3D d]], _, rfl, hd _ ((seq_nx ((sif_f t1).trans rfl)).trans (seq_ret (ret_ok ?_))), rfl⟩
      have t2 : dEqB eqT false (dBi bLen (dCons (dV 1) (dNil))) (dC (.int 1)) [.val (nts t u v), .val (.lst (((([a, b] :: [c, d] :: L) : List (List P3)).take 2).map (oneD r3D)))] k = some (false, k) := (eqB_ok (neg := false) (d := .int 2) (e := .int 1) (k2 := k) (fun _ _ z => by cases z) rfl rfl eq_int).trans rfl
      rw [if_f t2]
      exact make_ok (c := .Mixed) (fs := [.tup [r3D a, r3D b], .tup [r3D c, r3D d]]) (cons2_ok (bin_ok rfl rfl rfl) (bin_ok rfl rfl rfl)) rfl rfl rfl
  obtain ⟨c, fs, F, e1, e2, e3⟩ := key
  have e0 := c1_ok (F := F_judge_apart) hf e2
  simp only [dBoI, M.bind, e0, e1, e3, M.pure]
end
end Sky

end
section
namespace Sky
open PySem PySem.Spec PyProof.Rows L2
-- ### nights alike, any 
def alk (w v : Wy) (i : Int) : Bool := decide ((w.at i).nz ∧ (v.at i).nz ∧ (w.at i).lst = (v.at i).lst)
def ints0 (n : Nat) : List Int := (List.range n).map fun i : Nat => (i : Int)
def alkL (w v : Wy) (n : Nat) : List Int := (ints0 (n + 1)).filter (alk w v)
theorem ve_non {p : Ve} : cEqP p.D .non = some false := by
  unfold cEqP
  simp [D.py, D.pys, SeqAt.shaped, PyData.canLay0, PyData.canLayAll0, PyData.depth, PyData.depthAll, PyData.eqv]
theorem ints0_D (n : Nat) : rangeD 0 n = (ints0 n).map D.int := by
  unfold rangeD ints0
  rw [List.map_map]
  congr 1
  funext i
  show D.int (0 + (i : Int)) = D.int (i : Int)
  rw [Int.zero_add]
theorem mem_ints0 {n : Nat} {i : Int} (h : i ∈ ints0 n) : 0 ≤ i ∧ i < n := by
  obtain ⟨j, hj, rfl⟩ := List.mem_map.mp h
  have := List.mem_range.mp hj
  omega
def rowI (w v : Wy) (i : Int) : D × D × D := (.int i, sn (w.at i), sn (v.at i))
def gI (w v : Wy) : D → D
  | .int i => .tup [.int i, sn (w.at i), sn (v.at i)]
  | d => d
theorem alk_c {w v : Wy} {i : Int} {ρ : Env} {k : Nat} (h5 : dV 5 ρ k = some (sn (w.at i), k)) (h6 : dV 6 ρ k = some (sn (v.at i), k)) : dAndB (dBinB cIsNot (dV 5) (dC .non)) (dEqB eqT false (dV 5) (dV 6)) ρ k = some (alk w v i, k) := by
  unfold sn at h5 h6
  unfold alk
  by_cases z1 : (w.at i).nz
  · rw [if_pos z1] at h5
    have t1 : dBinB cIsNot (dV 5) (dC .non) ρ k = some (true, k) := binB_ok h5 rfl rfl
    by_cases z2 : (v.at i).nz
    · rw [if_pos z2] at h6
      have t2 := eqB_ve (neg := false) h5 h6
      rw [Bool.false_xor] at t2
      rw [and_t t1 t2]
      congr 2
      exact decide_eq_decide.mpr ⟨fun h => ⟨z1, z2, h⟩, fun h => h.2.2⟩
    · rw [if_neg z2] at h6
      have t2 := eqB_ok (neg := false) (fun _ _ z => by cases z) h5 h6 ve_non
      rw [and_t t1 t2, decide_eq_false fun h => z2 h.2.1]
      rfl
  · rw [if_neg z1] at h5
    have t1 : dBinB cIsNot (dV 5) (dC .non) ρ k = some (false, k) := binB_ok h5 rfl rfl
    rw [and_f t1, decide_eq_false fun h => z1 h.1]
theorem alike_ok {w v : Wy} {b k n : Nat} (hw : w.Bd b) (hv : v.Bd b) (hb : b < 5000) (hn : n ≤ 98) : F_nights_alike [w.D, v.D, .int n] k = some (.tup ((alkL w v n).map D.int), k) := by
  refine runB_ret ?_
  show S_nights_alike [.val w.D, .val v.D, .val (.int n), .no, .no, .no, .no] k = _
  unfold S_nights_alike
  rw [seq_nx (drop_ok (c1_ok rfl check_way_ok)), seq_nx (drop_ok (c1_ok rfl check_way_ok)), seq_nx (drop_ok (c4_ok rfl rfl rfl rfl (check_num (by omega) (by omega))))]
  have m1 : lcLoop (tgName 4) dTrue (dTup (dCons (dV 4) (dCons (dCall 2 F_seen (dCons (dV 0) (dCons (dV 4) (dNil)))) (dCons (dCall 2 F_seen (dCons (dV 1) (dCons (dV 4) (dNil)))) (dNil))))) (wipeE [.val w.D, .val v.D, .val (.int n), .no, .no, .no, .no] [4]) ((ints0 (n + 1)).map D.int) k = some (((ints0 (n + 1)).map D.int).map (gI w v), k) :=
    lc_map _ fun d hd => by
      obtain ⟨i, hi, rfl⟩ := List.mem_map.mp hd
      obtain ⟨h0, h1⟩ := mem_ints0 hi
      exact tup3_ok rfl (c2_ok rfl rfl (seen_any hw h0 (by omega) hb)) (c2_ok rfl rfl (seen_any hv h0 (by omega) hb))
  have em : ((ints0 (n + 1)).map D.int).map (gI w v) = ((ints0 (n + 1)).map (rowI w v)).map (fun t => D.tup [t.1, t.2.1, t.2.2]) := by
    rw [List.map_map, List.map_map]
    rfl
  rw [em] at m1
  have len : (ints0 (n + 1)).length = n + 1 := by unfold ints0; rw [List.length_map, List.length_range]
  have hl : lim (n + 1) = true := Nat.ble_eq.mpr (by omega)
  have it : dRng (dCons (dBin D.add (dV 2) (dC (.int 1))) dNil) [.val w.D, .val v.D, .val (.int n), .no, .no, .no, .no] k = some ((ints0 (n + 1)).map D.int, k) := by
    rw [← ints0_D]
    exact dRng_ok (cons1_ok (bin_ok (z := .int ((n : Int) + 1)) rfl rfl rfl)) (rng1 (by omega))
  have s1 : sAsg (dLc [4] (dRng (dCons (dBin D.add (dV 2) (dC (.int 1))) dNil)) (tgName 4) (dTrue) (dTup (dCons (dV 4) (dCons (dCall 2 F_seen (dCons (dV 0) (dCons (dV 4) (dNil)))) (dCons (dCall 2 F_seen (dCons (dV 1) (dCons (dV 4) (dNil)))) (dNil)))))) (tgName 3) [.val w.D, .val v.D, .val (.int n), .no, .no, .no, .no] k =
      some (.nx [.val w.D, .val v.D, .val (.int n), .val (.lst (((ints0 (n + 1)).map (rowI w v)).map (fun t => D.tup [t.1, t.2.1, t.2.2]))), .no, .no, .no], k) :=
    asg_ok (lcg_ok it m1 (by rw [List.length_map, List.length_map, len]; exact hl))
  rw [seq_nx s1]
  refine seq_ret (ret_ok ?_)
  generalize hX : D.lst (((ints0 (n + 1)).map (rowI w v)).map (fun t => D.tup [t.1, t.2.1, t.2.2])) = X
  have m2 : lcLoop (tgTup 3 (tgsCons (tgName 4) (tgsCons (tgName 5) (tgsCons (tgName 6) (tgsNil))))) (dAndB (dBinB cIsNot (dV 5) (dC .non)) (dEqB eqT false (dV 5) (dV 6))) (dV 4) (wipeE [.val w.D, .val v.D, .val (.int n), .val X, .no, .no, .no] [4, 5, 6]) (((ints0 (n + 1)).map (rowI w v)).map (fun t => D.tup [t.1, t.2.1, t.2.2])) k = some ((alkL w v n).map D.int, k) := by
    unfold alkL
    generalize ints0 (n + 1) = L
    induction L with
    | nil => rfl
    | cons i L ih =>
      rw [List.map_cons, List.map_cons]
      have pt : (tgTup 3 (tgsCons (tgName 4) (tgsCons (tgName 5) (tgsCons (tgName 6) (tgsNil))))).put (D.tup [(rowI w v i).1, (rowI w v i).2.1, (rowI w v i).2.2]) (wipeE [.val w.D, .val v.D, .val (.int n), .val X, .no, .no, .no] [4, 5, 6]) = some [.val w.D, .val v.D, .val (.int n), .val X, .val (.int i), .val (sn (w.at i)), .val (sn (v.at i))] := rfl
      have c := alk_c (w := w) (v := v) (i := i) (ρ := [.val w.D, .val v.D, .val (.int n), .val X, .val (.int i), .val (sn (w.at i)), .val (sn (v.at i))]) (k := k) rfl rfl
      have e : dV 4 [.val w.D, .val v.D, .val (.int n), .val X, .val (.int i), .val (sn (w.at i)), .val (sn (v.at i))] k = some (.int i, k) := rfl
      cases hq : alk w v i with
      | true =>
        rw [hq] at c
        rw [List.filter_cons_of_pos hq, List.map_cons]
        simp only [lcLoop, pt, M.bind, c, e, ih, M.pure]
      | false =>
        rw [hq] at c
        rw [List.filter_cons_of_neg (by rw [hq]; decide)]
        simp only [lcLoop, pt, M.bind, c, ih]
  have ml : (alkL w v n).length ≤ n + 1 := by unfold alkL; exact Nat.le_trans (List.length_filter_le _ _) (by rw [len]; exact Nat.le_refl _)
  refine bi_ok (cons1_ok (lcg_ok (k1 := k) (ds := ((ints0 (n + 1)).map (rowI w v)).map (fun t => D.tup [t.1, t.2.1, t.2.2])) ?_ m2 (by rw [List.length_map]; exact Nat.ble_eq.mpr (by omega)))) rfl
  rw [← hX]
  rfl
-- ### the other way round 
theorem ints0_rv (n : Nat) : (ints0 (n + 1)).map (fun i => (n : Int) - i) = (ints0 (n + 1)).reverse := by
  apply List.ext_getElem
  · simp [ints0]
  · intro i h1 h2
    simp only [ints0, List.length_map, List.length_range] at h1
    simp only [ints0, List.getElem_map, List.getElem_range, List.getElem_reverse, List.length_map, List.length_range]
    omega
theorem ints0_pw (n : Nat) : (ints0 n).Pairwise (· ≤ ·) := by
  unfold ints0
  rw [List.pairwise_map]
  refine List.Pairwise.imp ?_ (List.pairwise_lt_range (n := n))
  intro a b h
  omega
theorem alk_bk (w v : Wy) (L i : Int) : alk (bk w L) (bk v L) i = alk w v (L - i) := by
  unfold alk
  rw [bk_at, bk_at]
theorem alkL_bk (w v : Wy) (n : Nat) : sortI ((alkL w v n).map fun i => (n : Int) - i) = alkL (bk w n) (bk v n) n := by
  have e1 : alkL (bk w n) (bk v n) n = (ints0 (n + 1)).filter (fun i => alk w v ((n : Int) - i)) := by
    unfold alkL
    congr 1
    funext i
    exact alk_bk w v n i
  have pw : (alkL (bk w n) (bk v n) n).Pairwise (· ≤ ·) := (ints0_pw (n + 1)).filter _
  refine sorted_one ((sortI_perm _).trans ?_) (sortI_pw _) pw
  have e2 : (alkL w v n).map (fun i => (n : Int) - i) = ((ints0 (n + 1)).filter (fun i => alk w v ((n : Int) - i))).reverse := by
    have r := ints0_rv n
    have f1 : (ints0 (n + 1)).filter (alk w v) = (((ints0 (n + 1)).filter (fun i => alk w v ((n : Int) - i))).map fun i => (n : Int) - i).reverse := by
      have : (((ints0 (n + 1)).filter (fun i => alk w v ((n : Int) - i))).map fun i => (n : Int) - i) = ((ints0 (n + 1)).map fun i => (n : Int) - i).filter (alk w v) := by
        rw [List.filter_map]; rfl
      rw [this, r, ← List.filter_reverse, List.reverse_reverse]
    unfold alkL
    rw [f1, ← List.map_reverse, List.map_map]
    have : ((fun i => (n : Int) - i) ∘ fun i => (n : Int) - i) = id := by
      funext i
      show (n : Int) - ((n : Int) - i) = i
      omega
    rw [this, List.map_id]
  rw [e2, e1]
  exact List.reverse_perm _
theorem ints_map : ∀ xs : List Int, intsD (xs.map D.int) = some xs
  | [] => rfl
  | x :: xs => by simp only [List.map_cons, intsD, ints_map xs, Option.map]
theorem eq_ints (xs : List Int) (h : xs.length ≤ 1000000) : cEqP (.lst (xs.map D.int)) (.lst (xs.map D.int)) = some true := by
  have hp : ∀ xs : List Int, D.pys (xs.map D.int) = some (xs.map PyData.int) ∧ PyData.canLayAll0 (xs.map PyData.int) = true ∧ PyData.depthAll (xs.map PyData.int) = 0 ∧ PyData.eqvAll (xs.map PyData.int) (xs.map PyData.int) = true := fun xs => by
    induction xs with
    | nil => exact ⟨by simp [D.pys], by simp [PyData.canLayAll0], by simp [PyData.depthAll], by simp [PyData.eqvAll]⟩
    | cons x xs ih => simp [D.pys, D.py, PyData.canLayAll0, PyData.canLay0, PyData.depthAll, PyData.depth, PyData.eqvAll, PyData.eqv, ih]
  obtain ⟨h1, h2, h3, h4⟩ := hp xs
  unfold cEqP
  simp [D.py, h1, SeqAt.shaped, PyData.canLay0, h2, PyData.depth, h3, PyData.eqv, h4]
end Sky

end
section
namespace Sky
open PySem PySem.Spec PyProof.Rows L2
-- ### k91's statements 
/-- way, last = (_law_way(draw), 6 + _law_take(draw, 6)) -/
def Ta0 (ns : List Int) : SemS := sAsg (dTup (dCons (dCall 1 (F__law_way ns) (dCons (dV 1) (dNil))) (dCons (dBin D.add (dC (.int 6)) (dCall 2 (F__law_take ns) (dCons (dV 1) (dCons (dC (.int 6)) (dNil))))) (dNil)))) (tgTup 2 (tgsCons (tgName 3) (tgsCons (tgName 4) (tgsNil))))
/-- back = (tuple([left + last * right for left, right in zip(way[0], way[1])]), tuple([0 - number for number in way[1]])) -/
def Ta1 (ns : List Int) : SemS := sAsg (dTup (dCons (dBi bTup (dCons (dLc [20, 21] (dZip (dCons (dBin D.ix (dV 3) (dC (.int 0))) (dCons (dBin D.ix (dV 3) (dC (.int 1))) (dNil)))) (tgTup 2 (tgsCons (tgName 20) (tgsCons (tgName 21) (tgsNil)))) (dTrue) (dBin D.add (dV 20) (dBin D.mul (dV 4) (dV 21)))) (dNil))) (dCons (dBi bTup (dCons (dLc [22] (dItems (dBin D.ix (dV 3) (dC (.int 1)))) (tgName 22) (dTrue) (dBin D.sub (dC (.int 0)) (dV 22))) (dNil))) (dNil)))) (tgName 5)
/-- if any([at_night(back, night) != at_night(way, last - night) or seen(back, night) != seen(way, last - night) for night in range(last + 1)]): -/
def Ta2 (ns : List Int) : SemS := sIf (dTru (dBi bAny (dCons (dLc [23] (dRng (dCons (dBin D.add (dV 4) (dC (.int 1))) dNil)) (tgName 23) (dTrue) (dOrV (dEq eqT true (dCall 2 F_at_night (dCons (dV 5) (dCons (dV 23) (dNil)))) (dCall 2 F_at_night (dCons (dV 3) (dCons (dBin D.sub (dV 4) (dV 23)) (dNil))))) (dEq eqT true (dCall 2 F_seen (dCons (dV 5) (dCons (dV 23) (dNil)))) (dCall 2 F_seen (dCons (dV 3) (dCons (dBin D.sub (dV 4) (dV 23)) (dNil))))))) (dNil)))) (sSeq (sRet (dC (.bl false))) (sNext)) (sNext)
/-- circle = circle_of(way) -/
def Ta3 (ns : List Int) : SemS := sAsg (dCall 1 F_circle_of (dCons (dV 3) (dNil))) (tgName 6)
/-- if circle is not None: -/
def Ta4 (ns : List Int) : SemS := sIf (dBinB cIsNot (dV 6) (dC .non)) (sSeq (sIf (dOrB (dEqB eqT true (dCall 1 F_circle_of (dCons (dV 5) (dNil))) (dBi bTup (dCons (dLc [22] (dItems (dV 6)) (tgName 22) (dTrue) (dBin D.sub (dC (.int 0)) (dV 22))) (dNil)))) (dTru (dBi bAny (dCons (dLc [24] (dItems (dLc [25] (dRng (dCons (dC (.int 4)) dNil)) (tgName 25) (dTrue) (dCall 1 (F__law_sky ns) (dCons (dV 1) (dNil))))) (tgName 24) (dTrue) (dEq eqT true (dCall 2 F_side_of (dCons (dV 5) (dCons (dV 24) (dNil)))) (dBin D.sub (dC (.int 0)) (dCall 2 F_side_of (dCons (dV 3) (dCons (dV 24) (dNil))))))) (dNil))))) (sSeq (sRet (dC (.bl false))) (sNext)) (sNext)) (sSeq (sAsg (dLst (dCons (dC (.int 0)) (dCons (dBin D.add (dC (.int 2)) (dCall 2 (F__law_take ns) (dCons (dV 1) (dCons (dC (.int 2)) (dNil))))) (dCons (dC (.int 4)) (dCons (dV 4) (dNil)))))) (tgName 7)) (sSeq (sAsg (dLc [23] (dItems (dV 7)) (tgName 23) (dTrue) (dTup (dCons (dV 23) (dCons (dCall 2 F_seen (dCons (dV 3) (dCons (dV 23) (dNil)))) (dNil))))) (tgName 8)) (sSeq (sAsg (dLc [23, 26] (dItems (dUn D.rev (dV 8))) (tgTup 2 (tgsCons (tgName 23) (tgsCons (tgName 26) (tgsNil)))) (dTrue) (dTup (dCons (dBin D.sub (dV 4) (dV 23)) (dCons (dV 26) (dNil))))) (tgName 9)) (sSeq (sAsg (dTup (dCons (dCall 1 F_judge_way (dCons (dV 8) (dNil))) (dCons (dCall 1 F_judge_way (dCons (dV 9) (dNil))) (dNil)))) (tgTup 2 (tgsCons (tgName 10) (tgsCons (tgName 11) (tgsNil))))) (sSeq (sIf (dOrB (dNotB (dTru (dIsi (.own .Way) (dV 10)))) (dOrB (dNotB (dTru (dIsi (.own .Way) (dV 11)))) (dOrB (dNotB (dTru (dCall 2 F_is_seen (dCons (dTup (dCons (dFld "start" (dV 10)) (dCons (dFld "step" (dV 10)) (dNil)))) (dCons (dV 8) (dNil)))))) (dNotB (dTru (dCall 2 F_is_seen (dCons (dTup (dCons (dFld "start" (dV 11)) (dCons (dFld "step" (dV 11)) (dNil)))) (dCons (dV 9) (dNil))))))))) (sSeq (sRet (dC (.bl false))) (sNext)) (sNext)) (sSeq (sIf (dTru (dBi bAny (dCons (dLc [23] (dRng (dCons (dBin D.add (dV 4) (dC (.int 1))) dNil)) (tgName 23) (dTrue) (dEq eqT true (dCall 2 F_seen (dCons (dTup (dCons (dFld "start" (dV 11)) (dCons (dFld "step" (dV 11)) (dNil)))) (dCons (dV 23) (dNil)))) (dCall 2 F_seen (dCons (dTup (dCons (dFld "start" (dV 10)) (dCons (dFld "step" (dV 10)) (dNil)))) (dCons (dBin D.sub (dV 4) (dV 23)) (dNil)))))) (dNil)))) (sSeq (sRet (dC (.bl false))) (sNext)) (sNext)) (sSeq (sAsg (dCall 1 (F__law_sky ns) (dCons (dV 1) (dNil))) (tgName 12)) (sSeq (sPar2 13 14 (dBin D.add (dBin D.add (dSl (dV 8) (dNoPart) (dPart (dC (.int 2)))) (dLst (dCons (dTup (dCons (dBin D.ix (dV 7) (dC (.int 2))) (dCons (dV 12) (dNil)))) (dNil)))) (dSl (dV 8) (dPart (dC (.int 3))) (dNoPart))) (dLc [23, 26] (dItems (dUn D.rev (dBin D.add (dBin D.add (dSl (dV 8) (dNoPart) (dPart (dC (.int 2)))) (dLst (dCons (dTup (dCons (dBin D.ix (dV 7) (dC (.int 2))) (dCons (dV 12) (dNil)))) (dNil)))) (dSl (dV 8) (dPart (dC (.int 3))) (dNoPart))))) (tgTup 2 (tgsCons (tgName 23) (tgsCons (tgName 26) (tgsNil)))) (dTrue) (dTup (dCons (dBin D.sub (dV 4) (dV 23)) (dCons (dV 26) (dNil)))))) (sSeq (sIf (dEqB eqT true (dIsi (.own .NoWay) (dCall 1 F_judge_way (dCons (dV 13) (dNil)))) (dIsi (.own .NoWay) (dCall 1 F_judge_way (dCons (dV 14) (dNil))))) (sSeq (sRet (dC (.bl false))) (sNext)) (sNext)) (sSeq (sAsg (dTup (dCons (dLst (dCons (dBin D.ix (dV 8) (dC (.int 0))) (dCons (dBin D.ix (dV 8) (dUn D.neg (dC (.int 1)))) (dNil)))) (dCons (dLst (dCons (dBin D.ix (dV 9) (dC (.int 0))) (dCons (dBin D.ix (dV 9) (dUn D.neg (dC (.int 1)))) (dNil)))) (dNil)))) (tgTup 2 (tgsCons (tgName 15) (tgsCons (tgName 16) (tgsNil))))) (sSeq (sIf (dTru (dBi bAny (dCons (dLc [23] (dRng (dCons (dC (.int 1)) (dCons (dV 4) dNil))) (tgName 23) (dTrue) (dEq eqT true (dCall 3 F_is_within (dCons (dV 15) (dCons (dV 23) (dCons (dV 12) (dNil))))) (dCall 3 F_is_within (dCons (dV 16) (dCons (dBin D.sub (dV 4) (dV 23)) (dCons (dV 12) (dNil))))))) (dNil)))) (sSeq (sRet (dC (.bl false))) (sNext)) (sNext)) (sNext))))))))))))) (sNext)
/-- other = _law_way(draw) -/
def Ta5 (ns : List Int) : SemS := sAsg (dCall 1 (F__law_way ns) (dCons (dV 1) (dNil))) (tgName 11)
/-- theirs = (tuple([left + last * right for left, right in zip(other[0], other[1])]), tuple([0 - number for number in other[1]])) -/
def Ta6 (ns : List Int) : SemS := sAsg (dTup (dCons (dBi bTup (dCons (dLc [20, 21] (dZip (dCons (dBin D.ix (dV 11) (dC (.int 0))) (dCons (dBin D.ix (dV 11) (dC (.int 1))) (dNil)))) (tgTup 2 (tgsCons (tgName 20) (tgsCons (tgName 21) (tgsNil)))) (dTrue) (dBin D.add (dV 20) (dBin D.mul (dV 4) (dV 21)))) (dNil))) (dCons (dBi bTup (dCons (dLc [22] (dItems (dBin D.ix (dV 11) (dC (.int 1)))) (tgName 22) (dTrue) (dBin D.sub (dC (.int 0)) (dV 22))) (dNil))) (dNil)))) (tgName 17)
/-- if list(nights_alike(back, theirs, last)) != sorted([last - night for night in nights_alike(way, other, last)]): -/
def Ta7 (ns : List Int) : SemS := sIf (dEqB eqT true (dBi bLst (dCons (dCall 3 F_nights_alike (dCons (dV 5) (dCons (dV 17) (dCons (dV 4) (dNil))))) (dNil))) (dBi bSorted (dCons (dLc [23] (dItems (dCall 3 F_nights_alike (dCons (dV 3) (dCons (dV 11) (dCons (dV 4) (dNil)))))) (tgName 23) (dTrue) (dBin D.sub (dV 4) (dV 23))) (dNil)))) (sSeq (sRet (dC (.bl false))) (sNext)) (sNext)
/-- lots = [(night, [seen(way, night), seen(other, night)]) for night in (0, 3, last)] -/
def Ta8 (ns : List Int) : SemS := sAsg (dLc [23] (dItems (dTup (dCons (dC (.int 0)) (dCons (dC (.int 3)) (dCons (dV 4) (dNil)))))) (tgName 23) (dTrue) (dTup (dCons (dV 23) (dCons (dLst (dCons (dCall 2 F_seen (dCons (dV 3) (dCons (dV 23) (dNil)))) (dCons (dCall 2 F_seen (dCons (dV 11) (dCons (dV 23) (dNil)))) (dNil)))) (dNil))))) (tgName 18)
/-- if not any([None in points or points[0] == points[1] for night, points in lots]): -/
def Ta9 (ns : List Int) : SemS := sIf (dNotB (dTru (dBi bAny (dCons (dLc [23, 27] (dItems (dV 18)) (tgTup 2 (tgsCons (tgName 23) (tgsCons (tgName 27) (tgsNil)))) (dTrue) (dOrV (dBin (fun x y => (cIn x y).map D.bl) (dC .non) (dV 27)) (dEq eqT false (dBin D.ix (dV 27) (dC (.int 0))) (dBin D.ix (dV 27) (dC (.int 1)))))) (dNil))))) (sSeq (sAsg (dLc [23, 27] (dItems (dUn D.rev (dV 18))) (tgTup 2 (tgsCons (tgName 23) (tgsCons (tgName 27) (tgsNil)))) (dTrue) (dTup (dCons (dBin D.sub (dV 4) (dV 23)) (dCons (dV 27) (dNil))))) (tgName 19)) (sSeq (sIf (dOrB (dEqB eqT true (dBi bLen (dCons (dCall 2 F_sortings (dCons (dV 18) (dCons (dC (.int 9)) (dNil)))) (dNil))) (dBi bLen (dCons (dCall 2 F_sortings (dCons (dV 19) (dCons (dC (.int 9)) (dNil)))) (dNil)))) (dAndB (dEqB eqT true (dCall 2 F_sortings (dCons (dV 18) (dCons (dC (.int 9)) (dNil)))) (dLst (dNil))) (dEqB eqT true (dBoI boT (dCall 1 F_judge_apart (dCons (dV 18) (dNil)))) (dBoI boT (dCall 1 F_judge_apart (dCons (dV 19) (dNil))))))) (sSeq (sRet (dC (.bl false))) (sNext)) (sNext)) (sNext))) (sNext)
/-- if circle_of(back) != tuple([0 - number for number in circle]) or any([side_of(back, one) != 0 - side_of(way, one) for one in [_law_sky(draw) for agai -/
def Tb0 (ns : List Int) : SemS := sIf (dOrB (dEqB eqT true (dCall 1 F_circle_of (dCons (dV 5) (dNil))) (dBi bTup (dCons (dLc [22] (dItems (dV 6)) (tgName 22) (dTrue) (dBin D.sub (dC (.int 0)) (dV 22))) (dNil)))) (dTru (dBi bAny (dCons (dLc [24] (dItems (dLc [25] (dRng (dCons (dC (.int 4)) dNil)) (tgName 25) (dTrue) (dCall 1 (F__law_sky ns) (dCons (dV 1) (dNil))))) (tgName 24) (dTrue) (dEq eqT true (dCall 2 F_side_of (dCons (dV 5) (dCons (dV 24) (dNil)))) (dBin D.sub (dC (.int 0)) (dCall 2 F_side_of (dCons (dV 3) (dCons (dV 24) (dNil))))))) (dNil))))) (sSeq (sRet (dC (.bl false))) (sNext)) (sNext)
/-- nights = [0, 2 + _law_take(draw, 2), 4, last] -/
def Tb1 (ns : List Int) : SemS := sAsg (dLst (dCons (dC (.int 0)) (dCons (dBin D.add (dC (.int 2)) (dCall 2 (F__law_take ns) (dCons (dV 1) (dCons (dC (.int 2)) (dNil))))) (dCons (dC (.int 4)) (dCons (dV 4) (dNil)))))) (tgName 7)
/-- rows = [(night, seen(way, night)) for night in nights] -/
def Tb2 (ns : List Int) : SemS := sAsg (dLc [23] (dItems (dV 7)) (tgName 23) (dTrue) (dTup (dCons (dV 23) (dCons (dCall 2 F_seen (dCons (dV 3) (dCons (dV 23) (dNil)))) (dNil))))) (tgName 8)
/-- late = [(last - night, direction) for night, direction in rows[::-1]] -/
def Tb3 (ns : List Int) : SemS := sAsg (dLc [23, 26] (dItems (dUn D.rev (dV 8))) (tgTup 2 (tgsCons (tgName 23) (tgsCons (tgName 26) (tgsNil)))) (dTrue) (dTup (dCons (dBin D.sub (dV 4) (dV 23)) (dCons (dV 26) (dNil))))) (tgName 9)
/-- found, other = (judge_way(rows), judge_way(late)) -/
def Tb4 (ns : List Int) : SemS := sAsg (dTup (dCons (dCall 1 F_judge_way (dCons (dV 8) (dNil))) (dCons (dCall 1 F_judge_way (dCons (dV 9) (dNil))) (dNil)))) (tgTup 2 (tgsCons (tgName 10) (tgsCons (tgName 11) (tgsNil))))
/-- if not isinstance(found, Way) or not isinstance(other, Way) or (not is_seen((found.start, found.step), rows)) or (not is_seen((other.start, other.step -/
def Tb5 (ns : List Int) : SemS := sIf (dOrB (dNotB (dTru (dIsi (.own .Way) (dV 10)))) (dOrB (dNotB (dTru (dIsi (.own .Way) (dV 11)))) (dOrB (dNotB (dTru (dCall 2 F_is_seen (dCons (dTup (dCons (dFld "start" (dV 10)) (dCons (dFld "step" (dV 10)) (dNil)))) (dCons (dV 8) (dNil)))))) (dNotB (dTru (dCall 2 F_is_seen (dCons (dTup (dCons (dFld "start" (dV 11)) (dCons (dFld "step" (dV 11)) (dNil)))) (dCons (dV 9) (dNil))))))))) (sSeq (sRet (dC (.bl false))) (sNext)) (sNext)
/-- if any([seen((other.start, other.step), night) != seen((found.start, found.step), last - night) for night in range(last + 1)]): -/
def Tb6 (ns : List Int) : SemS := sIf (dTru (dBi bAny (dCons (dLc [23] (dRng (dCons (dBin D.add (dV 4) (dC (.int 1))) dNil)) (tgName 23) (dTrue) (dEq eqT true (dCall 2 F_seen (dCons (dTup (dCons (dFld "start" (dV 11)) (dCons (dFld "step" (dV 11)) (dNil)))) (dCons (dV 23) (dNil)))) (dCall 2 F_seen (dCons (dTup (dCons (dFld "start" (dV 10)) (dCons (dFld "step" (dV 10)) (dNil)))) (dCons (dBin D.sub (dV 4) (dV 23)) (dNil)))))) (dNil)))) (sSeq (sRet (dC (.bl false))) (sNext)) (sNext)
/-- free = _law_sky(draw) -/
def Tb7 (ns : List Int) : SemS := sAsg (dCall 1 (F__law_sky ns) (dCons (dV 1) (dNil))) (tgName 12)
/-- bent, turned = (rows[:2] + [(nights[2], free)] + rows[3:], [(last - night, direction) for night, direction in (rows[:2] + [(nights[2], free)] + rows[3 -/
def Tb8 (ns : List Int) : SemS := sPar2 13 14 (dBin D.add (dBin D.add (dSl (dV 8) (dNoPart) (dPart (dC (.int 2)))) (dLst (dCons (dTup (dCons (dBin D.ix (dV 7) (dC (.int 2))) (dCons (dV 12) (dNil)))) (dNil)))) (dSl (dV 8) (dPart (dC (.int 3))) (dNoPart))) (dLc [23, 26] (dItems (dUn D.rev (dBin D.add (dBin D.add (dSl (dV 8) (dNoPart) (dPart (dC (.int 2)))) (dLst (dCons (dTup (dCons (dBin D.ix (dV 7) (dC (.int 2))) (dCons (dV 12) (dNil)))) (dNil)))) (dSl (dV 8) (dPart (dC (.int 3))) (dNoPart))))) (tgTup 2 (tgsCons (tgName 23) (tgsCons (tgName 26) (tgsNil)))) (dTrue) (dTup (dCons (dBin D.sub (dV 4) (dV 23)) (dCons (dV 26) (dNil)))))
/-- if isinstance(judge_way(bent), NoWay) != isinstance(judge_way(turned), NoWay): -/
def Tb9 (ns : List Int) : SemS := sIf (dEqB eqT true (dIsi (.own .NoWay) (dCall 1 F_judge_way (dCons (dV 13) (dNil)))) (dIsi (.own .NoWay) (dCall 1 F_judge_way (dCons (dV 14) (dNil))))) (sSeq (sRet (dC (.bl false))) (sNext)) (sNext)
/-- pair, home = ([rows[0], rows[-1]], [late[0], late[-1]]) -/
def Tb10 (ns : List Int) : SemS := sAsg (dTup (dCons (dLst (dCons (dBin D.ix (dV 8) (dC (.int 0))) (dCons (dBin D.ix (dV 8) (dUn D.neg (dC (.int 1)))) (dNil)))) (dCons (dLst (dCons (dBin D.ix (dV 9) (dC (.int 0))) (dCons (dBin D.ix (dV 9) (dUn D.neg (dC (.int 1)))) (dNil)))) (dNil)))) (tgTup 2 (tgsCons (tgName 15) (tgsCons (tgName 16) (tgsNil))))
/-- if any([is_within(pair, night, free) != is_within(home, last - night, free) for night in range(1, last)]): -/
def Tb11 (ns : List Int) : SemS := sIf (dTru (dBi bAny (dCons (dLc [23] (dRng (dCons (dC (.int 1)) (dCons (dV 4) dNil))) (tgName 23) (dTrue) (dEq eqT true (dCall 3 F_is_within (dCons (dV 15) (dCons (dV 23) (dCons (dV 12) (dNil))))) (dCall 3 F_is_within (dCons (dV 16) (dCons (dBin D.sub (dV 4) (dV 23)) (dCons (dV 12) (dNil))))))) (dNil)))) (sSeq (sRet (dC (.bl false))) (sNext)) (sNext)
/-- mirrored = [(last - night, points) for night, points in lots[::-1]] -/
def Tc0 (ns : List Int) : SemS := sAsg (dLc [23, 27] (dItems (dUn D.rev (dV 18))) (tgTup 2 (tgsCons (tgName 23) (tgsCons (tgName 27) (tgsNil)))) (dTrue) (dTup (dCons (dBin D.sub (dV 4) (dV 23)) (dCons (dV 27) (dNil))))) (tgName 19)
/-- if len(sortings(lots, 9)) != len(sortings(mirrored, 9)) or (sortings(lots, 9) != [] and bool(judge_apart(lots)) != bool(judge_apart(mirrored))): -/
def Tc1 (ns : List Int) : SemS := sIf (dOrB (dEqB eqT true (dBi bLen (dCons (dCall 2 F_sortings (dCons (dV 18) (dCons (dC (.int 9)) (dNil)))) (dNil))) (dBi bLen (dCons (dCall 2 F_sortings (dCons (dV 19) (dCons (dC (.int 9)) (dNil)))) (dNil)))) (dAndB (dEqB eqT true (dCall 2 F_sortings (dCons (dV 18) (dCons (dC (.int 9)) (dNil)))) (dLst (dNil))) (dEqB eqT true (dBoI boT (dCall 1 F_judge_apart (dCons (dV 18) (dNil)))) (dBoI boT (dCall 1 F_judge_apart (dCons (dV 19) (dNil))))))) (sSeq (sRet (dC (.bl false))) (sNext)) (sNext)
def Ub (ns : List Int) : SemS := sSeq (Tb0 ns) (sSeq (Tb1 ns) (sSeq (Tb2 ns) (sSeq (Tb3 ns) (sSeq (Tb4 ns) (sSeq (Tb5 ns) (sSeq (Tb6 ns) (sSeq (Tb7 ns) (sSeq (Tb8 ns) (sSeq (Tb9 ns) (sSeq (Tb10 ns) (sSeq (Tb11 ns) (sNext))))))))))))
theorem ta4_eq (ns : List Int) : Ta4 ns = sIf (dBinB cIsNot (dV 6) (dC .non)) (Ub ns) (sNext) := rfl
theorem ta9_eq (ns : List Int) : Ta9 ns = sIf (dNotB (dTru (dBi bAny (dCons (dLc [23, 27] (dItems (dV 18)) (tgTup 2 (tgsCons (tgName 23) (tgsCons (tgName 27) (tgsNil)))) (dTrue) (dOrV (dBin (fun x y => (cIn x y).map D.bl) (dC .non) (dV 27)) (dEq eqT false (dBin D.ix (dV 27) (dC (.int 0))) (dBin D.ix (dV 27) (dC (.int 1)))))) (dNil))))) (sSeq (Tc0 ns) (sSeq (Tc1 ns) (sNext))) (sNext) := rfl
def Lb (ns : List Int) : SemS := sSeq (Ta0 ns) (sSeq (Ta1 ns) (sSeq (Ta2 ns) (sSeq (Ta3 ns) (sSeq (Ta4 ns) (sSeq (Ta5 ns) (sSeq (Ta6 ns) (sSeq (Ta7 ns) (sSeq (Ta8 ns) (sSeq (Ta9 ns) (sNext))))))))))
theorem law_eq (ns : List Int) : S_law ns = sSeq (sFor (dRng (dCons (dC (.int 6)) dNil)) (tgName 2) (Lb ns)) (sSeq (sRet (dC (.bl true))) (sNext)) := rfl
-- ### small steps 
section
variable {ρ : Env} {k : Nat}
theorem orV_f {f g : Sem} {k1 : Nat} (h : f ρ k = some (.bl false, k1)) : dOrV f g ρ k = g ρ k1 := by simp only [dOrV, M.bind, h, D.tru, M.lift]
theorem orV_t {f g : Sem} {k1 : Nat} (h : f ρ k = some (.bl true, k1)) : dOrV f g ρ k = some (.bl true, k1) := by simp only [dOrV, M.bind, h, D.tru, M.lift, M.pure]
theorem selfV {f g : Sem} {d : D} {k1 k2 : Nat} (hd : ∀ c fs, d ≠ .ins c fs) (c : cEqP d d = some true) (h : f ρ k = some (d, k1)) (h1 : g ρ k1 = some (d, k2)) : dEq eqT true f g ρ k = some (.bl false, k2) := by
  have : dEqD eqT true d d = M.lift (((cEqP d d).map (xor true)).map D.bl) := by
    cases d <;> first | rfl | exact absurd rfl (hd _ _)
  simp only [dEq, M.bind, h, h1, this, c, Option.map, M.lift, Bool.xor_true, Bool.not_true]
theorem any_no {i : Nat} {vs : List Nat} {it : SemL} {f : Sem} {L : List D} {k1 : Nat} (hi : it ρ k = some (L, k1)) (hn : L.length ≤ 1000) (hf : ∀ d ∈ L, f ((wipeE ρ vs).set i (.val d)) k1 = some (.bl false, k1)) : dTru (dBi bAny (dCons (dLc vs it (tgName i) dTrue f) dNil)) ρ k = some (false, k1) := by
  have m := lc_map (i := i) (f := f) (ρ := wipeE ρ vs) (k := k1) (g := fun _ => D.bl false) L hf
  have hb : ∀ L : List D, boolsD (L.map fun _ => D.bl false) = some (L.map fun _ => false) := fun L => by
    induction L with
    | nil => rfl
    | cons a L ih => simp only [List.map_cons, boolsD, ih, Option.map]
  have ha : ∀ L : List D, (L.map fun _ => false).any id = false := fun L => by
    induction L with
    | nil => rfl
    | cons a L ih => simp only [List.map_cons, List.any_cons, ih]; rfl
  refine tru_ok (bi_ok (cons1_ok (lcg_ok hi m ?_)) ?_)
  · rw [List.length_map]; exact Nat.ble_eq.mpr (by omega)
  · show (boolsD _).map _ = _
    rw [hb, Option.map, ha]
end
-- ### the environment 
abbrev e9 (s2 s3 s4 s5 s6 s7 s8 s9 s10 s11 s12 s13 s14 s15 s16 s17 s18 s19 : Slot) : Env := [.val .scr, .val .drw, s2, s3, s4, s5, s6, s7, s8, s9, s10, s11, s12, s13, s14, s15, s16, s17, s18, s19, .no, .no, .no, .no, .no, .no, .no, .no]
structure Kn (w : Wy) (L : Nat) : Prop where
  bs : w.s.Bd 3
  bd : w.d.Bd 2
  l0 : 6 ≤ L
  l1 : L ≤ 11
theorem Kn.b {w : Wy} {L : Nat} (K : Kn w L) : w.Bd 3 := ⟨K.bs, K.bd.mono (by decide)⟩
theorem Kn.b8 {w : Wy} {L : Nat} (K : Kn w L) : w.Bd 8 := ⟨K.bs.mono (by decide), K.bd.mono (by decide)⟩
theorem Kn.lb {w : Wy} {L : Nat} (K : Kn w L) : Sky.Bd 4 (L : Int) := bd_of 15 (by have := K.l1; omega) (by decide)
theorem zsub {n : Nat} {x : Int} (h : Sky.Bd n x) : Sky.Bd n (0 - x) := by rw [Int.zero_sub]; exact h.neg
theorem bk_bd {w : Wy} {L : Nat} (K : Kn w L) : (bk w L).Bd 8 :=
  ⟨⟨(K.bs.a.mono (m := 7) (by decide)).add (K.lb.mul K.bd.a |>.mono (by decide)), (K.bs.b.mono (m := 7) (by decide)).add (K.lb.mul K.bd.b |>.mono (by decide)), (K.bs.c.mono (m := 7) (by decide)).add (K.lb.mul K.bd.c |>.mono (by decide))⟩, ⟨(zsub K.bd.a).mono (by decide), (zsub K.bd.b).mono (by decide), (zsub K.bd.c).mono (by decide)⟩⟩
section
variable {ns : List Int} {k : Nat} {w v : Wy} {L : Nat} {s2 s3 s4 s5 s6 s7 s8 s9 s10 s11 s12 s13 s14 s15 s16 s17 s18 s19 : Slot}
theorem ta0_ok (hn : ns.length ≤ 63) : ∃ (w : Wy) (L : Nat) (k' : Nat), Kn w L ∧ Ta0 ns (e9 s2 s3 s4 s5 s6 s7 s8 s9 s10 s11 s12 s13 s14 s15 s16 s17 s18 s19) k = some (.nx (e9 s2 (.val w.D) (.val (.int L)) s5 s6 s7 s8 s9 s10 s11 s12 s13 s14 s15 s16 s17 s18 s19), k') := by
  obtain ⟨w, k1, bs, bd, e⟩ := law_way_ok hn (k := k)
  obtain ⟨v0, a0, b0, h0⟩ := take_spec hn (m := 6) (k := k1) (by decide)
  have ev : (((6 + v0).toNat : Nat) : Int) = 6 + v0 := by omega
  refine ⟨w, (6 + v0).toNat, k1 + 1, ⟨bs, bd, by omega, by omega⟩, ?_⟩
  rw [ev]
  exact asgT2_ok (tup2_ok (c1_ok (F := F__law_way ns) rfl e) (bin_ok (x := .int 6) rfl (c2_ok (F := F__law_take ns) rfl rfl h0) rfl))
theorem back_row {i : Nat} {ρ : Env} (K : Kn w L) (hi : dV i ρ k = some (w.D, k)) (hL : ρ[4]? = some (.val (.int L))) (hl : ρ.length = 28) :
    dTup (dCons (dBi bTup (dCons (dLc [20, 21] (dZip (dCons (dBin D.ix (dV i) (dC (.int 0))) (dCons (dBin D.ix (dV i) (dC (.int 1))) (dNil)))) (tgTup 2 (tgsCons (tgName 20) (tgsCons (tgName 21) (tgsNil)))) (dTrue) (dBin D.add (dV 20) (dBin D.mul (dV 4) (dV 21)))) (dNil))) (dCons (dBi bTup (dCons (dLc [22] (dItems (dBin D.ix (dV i) (dC (.int 1)))) (tgName 22) (dTrue) (dBin D.sub (dC (.int 0)) (dV 22))) (dNil))) (dNil))) ρ k = some ((bk w L).D, k) := by
  have z := zip_ok (f := dBin D.ix (dV i) (dC (.int 0))) (g := dBin D.ix (dV i) (dC (.int 1))) (ρ := ρ) (k := k) (p := w.s) (q := w.d) (bin_ok hi rfl rfl) (bin_ok hi rfl rfl)
  have st : ∀ x y : Int, Sky.Bd 2 y → dBin D.add (dV 20) (dBin D.mul (dV 4) (dV 21)) (((wipeE ρ [20, 21]).set 20 (.val (.int x))).set 21 (.val (.int y))) k = some (.int (x + L * y), k) := fun x y hy => by
    refine bin_ok (x := .int x) (dv ?_ k) (bin_ok (x := .int L) (y := .int y) (dv ?_ k) (dv ?_ k) (mul_bd K.lb hy (by decide))) rfl
    · exact (gs (by decide)).trans (ge (by show 20 < ((ρ.set 21 .no).set 20 .no).length; rw [List.length_set, List.length_set, hl]; decide))
    · show ((((ρ.set 21 .no).set 20 .no).set 20 (.val (.int x))).set 21 (.val (.int y)))[4]? = _
      exact (gs (by decide)).trans ((gs (by decide)).trans ((gs (by decide)).trans ((gs (by decide)).trans hL)))
    · exact ge (by show 21 < (((ρ.set 21 .no).set 20 .no).set 20 (.val (.int x))).length; rw [List.length_set, List.length_set, List.length_set, hl]; decide)
  have t1 : dBi bTup (dCons (dLc [20, 21] (dZip (dCons (dBin D.ix (dV i) (dC (.int 0))) (dCons (dBin D.ix (dV i) (dC (.int 1))) (dNil)))) (tgTup 2 (tgsCons (tgName 20) (tgsCons (tgName 21) (tgsNil)))) (dTrue) (dBin D.add (dV 20) (dBin D.mul (dV 4) (dV 21)))) (dNil)) ρ k = some ((bk w L).s.D, k) :=
    bi_ok (cons1_ok (lcg_ok z (lcg_put put2 (st _ _ K.bd.a) (lcg_put put2 (st _ _ K.bd.b) (lcg_put put2 (st _ _ K.bd.c) rfl))) rfl)) rfl
  have st2 : ∀ x : Int, dBin D.sub (dC (.int 0)) (dV 22) ((wipeE ρ [22]).set 22 (.val (.int x))) k = some (.int (0 - x), k) := fun x =>
    bin_ok (x := .int 0) (y := .int x) rfl (dv (ge (by show 22 < (ρ.set 22 .no).length; rw [List.length_set, hl]; decide)) k) rfl
  have it : dItems (dBin D.ix (dV i) (dC (.int 1))) ρ k = some ([.int w.d.x, .int w.d.y, .int w.d.z], k) := items_ok (bin_ok (z := w.d.D) hi rfl rfl) rfl
  have t2 : dBi bTup (dCons (dLc [22] (dItems (dBin D.ix (dV i) (dC (.int 1)))) (tgName 22) (dTrue) (dBin D.sub (dC (.int 0)) (dV 22))) (dNil)) ρ k = some ((bk w L).d.D, k) :=
    bi_ok (cons1_ok (lc_ok it (lc_put (st2 _) (lc_put (st2 _) (lc_put (st2 _) lc_nil))) rfl)) rfl
  exact tup2_ok t1 t2
theorem ta1_ok (K : Kn w L) : Ta1 ns (e9 s2 (.val w.D) (.val (.int L)) s5 s6 s7 s8 s9 s10 s11 s12 s13 s14 s15 s16 s17 s18 s19) k = some (.nx (e9 s2 (.val w.D) (.val (.int L)) (.val (bk w L).D) s6 s7 s8 s9 s10 s11 s12 s13 s14 s15 s16 s17 s18 s19), k) :=
  asg_ok (back_row (i := 3) K rfl rfl rfl)
theorem it_last (h : L ≤ 11) : dRng (dCons (dBin D.add (dV 4) (dC (.int 1))) dNil) (e9 s2 s3 (.val (.int L)) s5 s6 s7 s8 s9 s10 s11 s12 s13 s14 s15 s16 s17 s18 s19) k = some ((ints0 (L + 1)).map D.int, k) := by
  rw [← ints0_D]
  exact dRng_ok (cons1_ok (bin_ok (z := .int ((L : Int) + 1)) rfl rfl rfl)) (rng1 (by omega))
theorem len_ints0 (n : Nat) : ((ints0 n).map D.int).length = n := by unfold ints0; rw [List.length_map, List.length_map, List.length_range]
theorem ta2_ok (K : Kn w L) : Ta2 ns (e9 s2 (.val w.D) (.val (.int L)) (.val (bk w L).D) s6 s7 s8 s9 s10 s11 s12 s13 s14 s15 s16 s17 s18 s19) k = some (.nx (e9 s2 (.val w.D) (.val (.int L)) (.val (bk w L).D) s6 s7 s8 s9 s10 s11 s12 s13 s14 s15 s16 s17 s18 s19), k) := by
  have l1 := K.l1
  refine (sif_f (any_no (it_last l1) (by rw [len_ints0]; omega) fun d hd => ?_)).trans rfl
  obtain ⟨i, hi, rfl⟩ := List.mem_map.mp hd
  obtain ⟨h0, h1⟩ := mem_ints0 hi
  have a1 := at_night_ok (k := k) (bk_bd K) h0 (by omega) (by decide)
  have a2 := at_night_ok (k := k) (n := (L : Int) - i) K.b (by omega) (by omega) (by decide)
  have b1 := seen_any (k := k) (bk_bd K) h0 (by omega) (by decide)
  have b2 := seen_any (k := k) (n := (L : Int) - i) K.b (by omega) (by omega) (by decide)
  rw [bk_at] at a1 b1
  obtain ⟨e1, e2⟩ := sn_self (w.at (L - i))
  have q1 : ∀ {ρ : Env}, ρ = (wipeE (e9 s2 (.val w.D) (.val (.int L)) (.val (bk w L).D) s6 s7 s8 s9 s10 s11 s12 s13 s14 s15 s16 s17 s18 s19) [23]).set 23 (.val (.int i)) → dEq eqT true (dCall 2 F_at_night (dCons (dV 5) (dCons (dV 23) (dNil)))) (dCall 2 F_at_night (dCons (dV 3) (dCons (dBin D.sub (dV 4) (dV 23)) (dNil)))) ρ k = some (.bl false, k) := fun h => by
    subst h
    exact selfV (fun _ _ z => by cases z) (eq_ve_self _) (c2_ok rfl rfl a1) (c2_ok rfl (bin_ok rfl rfl rfl) a2)
  have q2 : ∀ {ρ : Env}, ρ = (wipeE (e9 s2 (.val w.D) (.val (.int L)) (.val (bk w L).D) s6 s7 s8 s9 s10 s11 s12 s13 s14 s15 s16 s17 s18 s19) [23]).set 23 (.val (.int i)) → dEq eqT true (dCall 2 F_seen (dCons (dV 5) (dCons (dV 23) (dNil)))) (dCall 2 F_seen (dCons (dV 3) (dCons (dBin D.sub (dV 4) (dV 23)) (dNil)))) ρ k = some (.bl false, k) := fun h => by
    subst h
    exact selfV e2 e1 (c2_ok rfl rfl b1) (c2_ok rfl (bin_ok rfl rfl rfl) b2)
  exact (orV_f (q1 rfl)).trans (q2 rfl)
theorem ta3_ok (K : Kn w L) : Ta3 ns (e9 s2 (.val w.D) (.val (.int L)) s5 s6 s7 s8 s9 s10 s11 s12 s13 s14 s15 s16 s17 s18 s19) k = some (.nx (e9 s2 (.val w.D) (.val (.int L)) s5 (.val (cD w)) s7 s8 s9 s10 s11 s12 s13 s14 s15 s16 s17 s18 s19), k) :=
  asg_ok (c1_ok rfl (circle_ok K.b (by decide)))
theorem ta5_ok (hn : ns.length ≤ 63) : ∃ (v : Wy) (k' : Nat), v.s.Bd 3 ∧ v.d.Bd 2 ∧ Ta5 ns (e9 s2 s3 s4 s5 s6 s7 s8 s9 s10 s11 s12 s13 s14 s15 s16 s17 s18 s19) k = some (.nx (e9 s2 s3 s4 s5 s6 s7 s8 s9 s10 (.val v.D) s12 s13 s14 s15 s16 s17 s18 s19), k') := by
  obtain ⟨v, k1, bs, bd, e⟩ := law_way_ok hn (k := k)
  exact ⟨v, k1, bs, bd, asg_ok (c1_ok (F := F__law_way ns) rfl e)⟩
theorem ta6_ok (K : Kn v L) : Ta6 ns (e9 s2 s3 (.val (.int L)) s5 s6 s7 s8 s9 s10 (.val v.D) s12 s13 s14 s15 s16 s17 s18 s19) k = some (.nx (e9 s2 s3 (.val (.int L)) s5 s6 s7 s8 s9 s10 (.val v.D) s12 s13 s14 s15 s16 (.val (bk v L).D) s18 s19), k) :=
  asg_ok (back_row (i := 11) K rfl rfl rfl)
theorem ta7_ok (K : Kn w L) (Kv : Kn v L) : Ta7 ns (e9 s2 (.val w.D) (.val (.int L)) (.val (bk w L).D) s6 s7 s8 s9 s10 (.val v.D) s12 s13 s14 s15 s16 (.val (bk v L).D) s18 s19) k = some (.nx (e9 s2 (.val w.D) (.val (.int L)) (.val (bk w L).D) s6 s7 s8 s9 s10 (.val v.D) s12 s13 s14 s15 s16 (.val (bk v L).D) s18 s19), k) := by
  have l1 := K.l1
  have n1 := alike_ok (k := k) (n := L) (bk_bd K) (bk_bd Kv) (by decide) (by omega)
  have n2 := alike_ok (k := k) (n := L) K.b Kv.b (by decide) (by omega)
  have le : (alkL w v L).length ≤ L + 1 := by
    unfold alkL
    refine Nat.le_trans (List.length_filter_le _ _) ?_
    unfold ints0
    rw [List.length_map, List.length_range]
    exact Nat.le_refl _
  have q1 : dBi bLst (dCons (dCall 3 F_nights_alike (dCons (dV 5) (dCons (dV 17) (dCons (dV 4) (dNil))))) (dNil)) (e9 s2 (.val w.D) (.val (.int L)) (.val (bk w L).D) s6 s7 s8 s9 s10 (.val v.D) s12 s13 s14 s15 s16 (.val (bk v L).D) s18 s19) k = some (.lst ((alkL (bk w L) (bk v L) L).map D.int), k) := bi_ok (cons1_ok (c3_ok rfl rfl rfl n1)) rfl
  have lc : dLc [23] (dItems (dCall 3 F_nights_alike (dCons (dV 3) (dCons (dV 11) (dCons (dV 4) (dNil)))))) (tgName 23) (dTrue) (dBin D.sub (dV 4) (dV 23)) (e9 s2 (.val w.D) (.val (.int L)) (.val (bk w L).D) s6 s7 s8 s9 s10 (.val v.D) s12 s13 s14 s15 s16 (.val (bk v L).D) s18 s19) k = some (.lst (((alkL w v L).map fun i => (L : Int) - i).map D.int), k) := by
    have m := lc_fm (i := 23) (c := dTrue) (f := dBin D.sub (dV 4) (dV 23)) (ρ := wipeE (e9 s2 (.val w.D) (.val (.int L)) (.val (bk w L).D) s6 s7 s8 s9 s10 (.val v.D) s12 s13 s14 s15 s16 (.val (bk v L).D) s18 s19) [23]) (k := k) (g := D.int) (h := fun i => D.int ((L : Int) - i)) (q := fun _ => true) (alkL w v L) fun i _ => ⟨rfl, bin_ok rfl rfl rfl⟩
    have fl : (alkL w v L).filter (fun _ => true) = alkL w v L := List.filter_eq_self.mpr fun _ _ => rfl
    rw [fl] at m
    have em : ((alkL w v L).map fun i => (L : Int) - i).map D.int = (alkL w v L).map fun i => D.int ((L : Int) - i) := by rw [List.map_map]; rfl
    rw [em]
    exact lcg_ok (items_ok (c3_ok rfl rfl rfl n2) rfl) m (by rw [List.length_map]; exact Nat.ble_eq.mpr (by omega))
  have q2 : dBi bSorted (dCons (dLc [23] (dItems (dCall 3 F_nights_alike (dCons (dV 3) (dCons (dV 11) (dCons (dV 4) (dNil)))))) (tgName 23) (dTrue) (dBin D.sub (dV 4) (dV 23))) (dNil)) (e9 s2 (.val w.D) (.val (.int L)) (.val (bk w L).D) s6 s7 s8 s9 s10 (.val v.D) s12 s13 s14 s15 s16 (.val (bk v L).D) s18 s19) k = some (.lst ((alkL (bk w L) (bk v L) L).map D.int), k) := by
    refine bi_ok (cons1_ok lc) ?_
    have hl : decide (((alkL w v L).map fun i => (L : Int) - i).length < 64) = true := decide_eq_true (by rw [List.length_map]; omega)
    simp only [bSorted, ints_map]
    rw [hl, alkL_bk]
    rfl
  have le2 : (alkL (bk w L) (bk v L) L).length ≤ 1000000 := by
    unfold alkL
    refine Nat.le_trans (List.length_filter_le _ _) ?_
    unfold ints0
    rw [List.length_map, List.length_range]
    omega
  exact (sif_f (ne_not (fun _ _ z => by cases z) q1 q2 (eq_ints _ le2))).trans rfl
end
end Sky

end
section
namespace Sky
open PySem PySem.Spec PyProof.Rows L2
-- ### k91, a body with a circle 
def zn (p : Ve) : Ve := ⟨0 - p.x, 0 - p.y, 0 - p.z⟩
theorem zn_neg (p : Ve) : zn p = p.neg := by simp only [zn, Ve.neg, Int.zero_sub]
theorem dir_sm {u v : Ve} (t : Int) (h : Dir u v) : Dir (Ve.sm t u) (Ve.sm t v) := by
  obtain ⟨a, b, ha, hb, e⟩ := h
  refine ⟨a, b, ha, hb, ?_⟩
  rw [sm_sm, Int.mul_comm, ← sm_sm, e, sm_sm, sm_sm, Int.mul_comm]
theorem sm_neg1 (p : Ve) : Ve.sm (-1) p = p.neg := by
  simp only [Ve.sm, Ve.neg, Ve.mk.injEq]; refine ⟨?_, ?_, ?_⟩ <;> omega
theorem lst_neg {p : Ve} (h : p.nz) : (Ve.sm (-1) p).lst = zn p.lst := by
  have h1 : (Ve.sm (-1) p).nz := (sm_nz (by decide)).mpr h
  have d1 := lst_dir h1
  have d2 := dir_sm (-1) (lst_dir h)
  rw [sm_neg1 p.lst] at d2
  rw [zn_neg]
  exact (d1.symm.trans d2).prim (lst_prim h1) (prim_neg (lst_prim h))
theorem sgOf_neg (x : Int) : sgOf (-x) = 0 - sgOf x := by
  unfold sgOf
  split <;> split <;> omega
theorem dot_neg (u v : Ve) : (Ve.sm (-1) u).dot v = -(u.dot v) := by rw [dot_sml]; omega
theorem dlst_ok {g : SemL} {ρ : Env} {k k1 : Nat} {ds : List D} (h : g ρ k = some (ds, k1)) (hl : lim ds.length = true) : dLst g ρ k = some (.lst ds, k1) := by
  simp only [dLst, M.bind, h, hl, if_true, M.lift]
theorem cons_ok {f : Sem} {g : SemL} {ρ : Env} {k k1 k2 : Nat} {d : D} {ds : List D} (h : f ρ k = some (d, k1)) (h1 : g ρ k1 = some (ds, k2)) : dCons f g ρ k = some (d :: ds, k2) := by
  simp only [dCons, M.bind, h, h1, M.pure]
def sg (w : Wy) (n : Int) : Rw := ⟨n, (w.at n).lst⟩
theorem sg_ok {w : Wy} {L : Nat} (K : Kn w L) (nz : (w.s.cr w.d).nz) {n : Int} (h0 : 0 ≤ n) (h1 : n < 64) : (sg w n).Ok :=
  ⟨h0, (by show n ≤ 99; omega), lst_prim (at_nz nz n), (lst_bd (at_nz nz n) (at_bd9 K.bs K.bd h0 h1)).mono (by decide)⟩
theorem sg_dir {w : Wy} (nz : (w.s.cr w.d).nz) (n : Int) : Dir (w.at n) (sg w n).p := lst_dir (at_nz nz n)
theorem sg_cr {w : Wy} (nz : (w.s.cr w.d).nz) {m n : Int} (h : m < n) : ((sg w m).p.cr (sg w n).p).nz := dir_cr (sg_dir nz m).symm (sg_dir nz n).symm (at_crnz h nz)
theorem rv_ok {L : Int} {r : Rw} (o : r.Ok) (h0 : 0 ≤ L - r.n) (h1 : L - r.n ≤ 99) : (rv L r).Ok := ⟨h0, h1, o.p, o.b⟩
theorem sn_dir {p q : Ve} (d : Dir p q) (hp : p.nz) (hq : q.nz) : sn p = sn q := by
  unfold sn
  rw [if_pos hp, if_pos hq, (lst_iff hp hq).mpr d]
/-- judge_way, told by whether some way sees all -/
theorem judge_seen {w : Wy} {a b c d : Rw} (oa : a.Ok) (ob : b.Ok) (oc : c.Ok) (od : d.Ok) (h1 : a.n < b.n) (h2 : b.n < c.n) (h3 : c.n < d.n) (e : (a.p.cr d.p).nz) (hw : seenB w [a, b, c, d] a.n d.n = true) :
    (∀ k, F_judge_way [.lst [a.D, b.D, c.D, d.D]] k = some (wayD w.low, k)) ∧ seenB w.low [a, b, c, d] a.n d.n = true := by
  obtain ⟨r, hr, ⟨i, rfl, n⟩ | ⟨u, rfl, hu, hh⟩⟩ := judge4_res oa ob oc od h1 h2 h3 e
  · rw [n w] at hw; cases hw
  · have q := hh w hw
    subst q
    exact ⟨hr, hu⟩
section
variable {ns : List Int} {k : Nat} {w : Wy} {L : Nat} {s2 s3 s4 s5 s6 s7 s8 s9 s10 s11 s12 s13 s14 s15 s16 s17 s18 s19 : Slot}
theorem sky4 (hn : ns.length ≤ 63) : ∃ (ps : List Ve) (k' : Nat), ps.length = 4 ∧ (∀ p ∈ ps, Prim p ∧ p.Bd 10) ∧ dLc [25] (dRng (dCons (dC (.int 4)) dNil)) (tgName 25) (dTrue) (dCall 1 (F__law_sky ns) (dCons (dV 1) (dNil))) (e9 s2 s3 s4 s5 s6 s7 s8 s9 s10 s11 s12 s13 s14 s15 s16 s17 s18 s19) k = some (.lst (ps.map Ve.D), k') := by
  obtain ⟨p1, k1, z1, b1, q1, e1⟩ := skyV hn (k := k)
  obtain ⟨p2, k2, z2, b2, q2, e2⟩ := skyV hn (k := k1)
  obtain ⟨p3, k3, z3, b3, q3, e3⟩ := skyV hn (k := k2)
  obtain ⟨p4, k4, z4, b4, q4, e4⟩ := skyV hn (k := k3)
  refine ⟨[p1, p2, p3, p4], k4, rfl, fun p hp => ?_, ?_⟩
  · rcases List.mem_cons.mp hp with rfl | hp
    · exact ⟨q1.prim, b1.mono (by decide)⟩
    · rcases List.mem_cons.mp hp with rfl | hp
      · exact ⟨q2.prim, b2.mono (by decide)⟩
      · rcases List.mem_cons.mp hp with rfl | hp
        · exact ⟨q3.prim, b3.mono (by decide)⟩
        · rw [List.mem_singleton.mp hp]; exact ⟨q4.prim, b4.mono (by decide)⟩
  · exact lcg_ok (k1 := k) (ds := [.int 0, .int 1, .int 2, .int 3]) rfl (lc_put (c1_ok (F := F__law_sky ns) rfl e1) (lc_put (c1_ok (F := F__law_sky ns) rfl e2) (lc_put (c1_ok (F := F__law_sky ns) rfl e3) (lc_put (c1_ok (F := F__law_sky ns) rfl e4) lc_nil)))) rfl
theorem tb0_ok (hn : ns.length ≤ 63) (K : Kn w L) (nz : (w.s.cr w.d).nz) : ∃ k', Tb0 ns (e9 s2 (.val w.D) (.val (.int L)) (.val (bk w L).D) (.val (w.s.cr w.d).lst.D) s7 s8 s9 s10 s11 s12 s13 s14 s15 s16 s17 s18 s19) k = some (.nx (e9 s2 (.val w.D) (.val (.int L)) (.val (bk w L).D) (.val (w.s.cr w.d).lst.D) s7 s8 s9 s10 s11 s12 s13 s14 s15 s16 s17 s18 s19), k') := by
  have ci := circle_ok (k := k) (bk_bd K) (by decide)
  have nz2 : ((bk w L).s.cr (bk w L).d).nz := by rw [bk_cr]; exact (sm_nz (by decide)).mpr nz
  rw [if_pos nz2, bk_cr, lst_neg nz] at ci
  have t2 : dBi bTup (dCons (dLc [22] (dItems (dV 6)) (tgName 22) (dTrue) (dBin D.sub (dC (.int 0)) (dV 22))) (dNil)) (e9 s2 (.val w.D) (.val (.int L)) (.val (bk w L).D) (.val (w.s.cr w.d).lst.D) s7 s8 s9 s10 s11 s12 s13 s14 s15 s16 s17 s18 s19) k = some ((zn (w.s.cr w.d).lst).D, k) :=
    bi_ok (cons1_ok (lc_ok (items_ok rfl rfl) (lc_put (bin_ok rfl rfl rfl) (lc_put (bin_ok rfl rfl rfl) (lc_put (bin_ok rfl rfl rfl) lc_nil))) rfl)) rfl
  have q1 := ne_ve (c1_ok (F := F_circle_of) (f := dV 5) (ρ := e9 s2 (.val w.D) (.val (.int L)) (.val (bk w L).D) (.val (w.s.cr w.d).lst.D) s7 s8 s9 s10 s11 s12 s13 s14 s15 s16 s17 s18 s19) rfl ci) t2
  obtain ⟨ps, k', hl, hp, e⟩ := sky4 (ns := ns) (k := k) (s2 := s2) (s3 := .val w.D) (s4 := .val (.int L)) (s5 := .val (bk w L).D) (s6 := .val (w.s.cr w.d).lst.D) (s7 := s7) (s8 := s8) (s9 := s9) (s10 := s10) (s11 := s11) (s12 := s12) (s13 := s13) (s14 := s14) (s15 := s15) (s16 := s16) (s17 := s17) (s18 := s18) (s19 := s19) hn
  have q2 := any_no (vs := [24]) (i := 24) (f := dEq eqT true (dCall 2 F_side_of (dCons (dV 5) (dCons (dV 24) (dNil)))) (dBin D.sub (dC (.int 0)) (dCall 2 F_side_of (dCons (dV 3) (dCons (dV 24) (dNil)))))) (items_ok e rfl) (by rw [List.length_map, hl]; decide) fun d hd => by
    obtain ⟨p, hpp, rfl⟩ := List.mem_map.mp hd
    obtain ⟨pp, pb⟩ := hp p hpp
    have x1 := side_ok (k := k') (bk_bd K) (by decide) pp pb
    have x2 := side_ok (k := k') K.b (by decide) pp pb
    rw [bk_cr, dot_neg, sgOf_neg] at x1
    exact selfV (d := .int (0 - sgOf ((w.s.cr w.d).dot p))) (fun _ _ z => by cases z) (by rw [eq_int]; simp) (c2_ok rfl rfl x1) (bin_ok rfl (c2_ok rfl rfl x2) rfl)
  exact ⟨k', (sif_f (or_f q1 q2)).trans rfl⟩
theorem tb1_ok (hn : ns.length ≤ 63) : ∃ (m : Int) (k' : Nat), 2 ≤ m ∧ m ≤ 3 ∧ Tb1 ns (e9 s2 s3 (.val (.int L)) s5 s6 s7 s8 s9 s10 s11 s12 s13 s14 s15 s16 s17 s18 s19) k = some (.nx (e9 s2 s3 (.val (.int L)) s5 s6 (.val (.lst [.int 0, .int m, .int 4, .int L])) s8 s9 s10 s11 s12 s13 s14 s15 s16 s17 s18 s19), k') := by
  obtain ⟨v0, a0, b0, h0⟩ := take_spec hn (m := 2) (k := k) (by decide)
  exact ⟨2 + v0, k + 1, by omega, by omega, asg_ok (dlst_ok (cons_ok (k1 := k) rfl (cons_ok (bin_ok (x := .int 2) rfl (c2_ok (F := F__law_take ns) rfl rfl h0) rfl) (cons_ok rfl (cons_ok rfl rfl)))) rfl)⟩
theorem tb2_ok (K : Kn w L) (nz : (w.s.cr w.d).nz) {m : Int} (h2 : 2 ≤ m) (h3 : m ≤ 3) : Tb2 ns (e9 s2 (.val w.D) s4 s5 s6 (.val (.lst [.int 0, .int m, .int 4, .int L])) s8 s9 s10 s11 s12 s13 s14 s15 s16 s17 s18 s19) k =
    some (.nx (e9 s2 (.val w.D) s4 s5 s6 (.val (.lst [.int 0, .int m, .int 4, .int L])) (.val (.lst [(sg w 0).D, (sg w m).D, (sg w 4).D, (sg w L).D])) s9 s10 s11 s12 s13 s14 s15 s16 s17 s18 s19), k) := by
  have l1 := K.l1
  have st : ∀ n : Int, 0 ≤ n → n ≤ 99 → dTup (dCons (dV 23) (dCons (dCall 2 F_seen (dCons (dV 3) (dCons (dV 23) (dNil)))) (dNil))) ((wipeE (e9 s2 (.val w.D) s4 s5 s6 (.val (.lst [.int 0, .int m, .int 4, .int L])) s8 s9 s10 s11 s12 s13 s14 s15 s16 s17 s18 s19) [23]).set 23 (.val (.int n))) k = some ((sg w n).D, k) := fun n h0 h1 =>
    tup2_ok rfl (c2_ok rfl rfl (seen_ok K.b h0 h1 (by decide) (at_nz nz n)))
  exact asg_ok (lc_ok (k1 := k) (ds := [.int 0, .int m, .int 4, .int L]) rfl (lc_put (st 0 (by decide) (by decide)) (lc_put (st m (by omega) (by omega)) (lc_put (st 4 (by decide) (by decide)) (lc_put (st L (by omega) (by omega)) lc_nil)))) rfl)
theorem late_step {r : Rw} {s8 s9 : Slot} {ρ : Env} (hρ : ρ = ((wipeE (e9 s2 s3 (.val (.int L)) s5 s6 s7 s8 s9 s10 s11 s12 s13 s14 s15 s16 s17 s18 s19) [23, 26]).set 23 (.val (.int r.n))).set 26 (.val r.p.D)) : dTup (dCons (dBin D.sub (dV 4) (dV 23)) (dCons (dV 26) (dNil))) ρ k = some ((rv L r).D, k) := by
  subst hρ
  exact tup2_ok (bin_ok rfl rfl rfl) rfl
theorem tb3_ok {a b c d : Rw} : Tb3 ns (e9 s2 s3 (.val (.int L)) s5 s6 s7 (.val (.lst [a.D, b.D, c.D, d.D])) s9 s10 s11 s12 s13 s14 s15 s16 s17 s18 s19) k =
    some (.nx (e9 s2 s3 (.val (.int L)) s5 s6 s7 (.val (.lst [a.D, b.D, c.D, d.D])) (.val (.lst [(rv L d).D, (rv L c).D, (rv L b).D, (rv L a).D])) s10 s11 s12 s13 s14 s15 s16 s17 s18 s19), k) :=
  asg_ok (lcg_ok (k1 := k) (ds := [d.D, c.D, b.D, a.D]) rfl (lcg_put put2 (late_step rfl) (lcg_put put2 (late_step rfl) (lcg_put put2 (late_step rfl) (lcg_put put2 (late_step rfl) rfl)))) rfl)
end
end Sky

end
section
namespace Sky
open PySem PySem.Spec PyProof.Rows L2
section
variable {ns : List Int} {k : Nat} {w : Wy} {L : Nat} {s2 s3 s4 s5 s6 s7 s8 s9 s10 s11 s12 s13 s14 s15 s16 s17 s18 s19 : Slot}
/-- four of a body's sightings -/
structure F4 (w : Wy) (L : Nat) (m : Int) : Prop where
  oa : (sg w 0).Ok
  ob : (sg w m).Ok
  oc : (sg w 4).Ok
  od : (sg w L).Ok
  pa : (rv L (sg w 0)).Ok
  pb : (rv L (sg w m)).Ok
  pc : (rv L (sg w 4)).Ok
  pd : (rv L (sg w L)).Ok
  e : ((sg w 0).p.cr (sg w L).p).nz
theorem f4 (K : Kn w L) (nz : (w.s.cr w.d).nz) {m : Int} (h2 : 2 ≤ m) (h3 : m ≤ 3) : F4 w L m := by
  have l0 := K.l0; have l1 := K.l1
  have oa := sg_ok K nz (n := 0) (by decide) (by decide)
  have ob := sg_ok K nz (n := m) (by omega) (by omega)
  have oc := sg_ok K nz (n := 4) (by decide) (by decide)
  have od := sg_ok K nz (n := L) (by omega) (by omega)
  exact ⟨oa, ob, oc, od, rv_ok oa (by show 0 ≤ (L : Int) - 0; omega) (by show (L : Int) - 0 ≤ 99; omega), rv_ok ob (by show 0 ≤ (L : Int) - m; omega) (by show (L : Int) - m ≤ 99; omega), rv_ok oc (by show 0 ≤ (L : Int) - 4; omega) (by show (L : Int) - 4 ≤ 99; omega), rv_ok od (by show 0 ≤ (L : Int) - L; omega) (by show (L : Int) - L ≤ 99; omega), sg_cr nz (by omega)⟩
theorem seen_all (K : Kn w L) (nz : (w.s.cr w.d).nz) {m : Int} (h2 : 2 ≤ m) (h3 : m ≤ 3) : seenB w [sg w 0, sg w m, sg w 4, sg w L] 0 L = true := by
  have F := f4 K nz h2 h3
  have l0 := K.l0
  exact seen4_to F.oa F.ob F.oc F.od (by show (0 : Int) < L; omega) nz (sg_dir nz _) (sg_dir nz _) (sg_dir nz _) (sg_dir nz _)
theorem rows_res (K : Kn w L) (nz : (w.s.cr w.d).nz) {m : Int} (h2 : 2 ≤ m) (h3 : m ≤ 3) : (∀ k, F_judge_way [.lst [(sg w 0).D, (sg w m).D, (sg w 4).D, (sg w L).D]] k = some (wayD w.low, k)) ∧ seenB w.low [sg w 0, sg w m, sg w 4, sg w L] 0 L = true := by
  have F := f4 K nz h2 h3
  have l0 := K.l0
  exact judge_seen F.oa F.ob F.oc F.od (by show (0 : Int) < m; omega) (by show m < 4; omega) (by show (4 : Int) < L; omega) F.e (seen_all K nz h2 h3)
theorem late_res (K : Kn w L) (nz : (w.s.cr w.d).nz) {m : Int} (h2 : 2 ≤ m) (h3 : m ≤ 3) : (∀ k, F_judge_way [.lst [(rv L (sg w L)).D, (rv L (sg w 4)).D, (rv L (sg w m)).D, (rv L (sg w 0)).D]] k = some (wayD (bk w L).low, k)) ∧ seenB (bk w L).low [rv L (sg w L), rv L (sg w 4), rv L (sg w m), rv L (sg w 0)] (rv L (sg w L)).n (rv L (sg w 0)).n = true := by
  have F := f4 K nz h2 h3
  have l0 := K.l0
  have s := seen4_bk w L (sg w 0) (sg w m) (sg w 4) (sg w L)
  exact judge_seen F.pd F.pc F.pb F.pa (by show (L : Int) - L < L - 4; omega) (by show (L : Int) - 4 < L - m; omega) (by show (L : Int) - m < L - 0; omega) ((cr_swap_nz _ _).mp F.e) (s.trans (seen_all K nz h2 h3))
theorem tb4_ok (K : Kn w L) (nz : (w.s.cr w.d).nz) {m : Int} (h2 : 2 ≤ m) (h3 : m ≤ 3) : Tb4 ns (e9 s2 s3 s4 s5 s6 s7 (.val (.lst [(sg w 0).D, (sg w m).D, (sg w 4).D, (sg w L).D])) (.val (.lst [(rv L (sg w L)).D, (rv L (sg w 4)).D, (rv L (sg w m)).D, (rv L (sg w 0)).D])) s10 s11 s12 s13 s14 s15 s16 s17 s18 s19) k =
    some (.nx (e9 s2 s3 s4 s5 s6 s7 (.val (.lst [(sg w 0).D, (sg w m).D, (sg w 4).D, (sg w L).D])) (.val (.lst [(rv L (sg w L)).D, (rv L (sg w 4)).D, (rv L (sg w m)).D, (rv L (sg w 0)).D])) (.val (wayD w.low)) (.val (wayD (bk w L).low)) s12 s13 s14 s15 s16 s17 s18 s19), k) :=
  asgT2_ok (tup2_ok (c1_ok rfl ((rows_res K nz h2 h3).1 k)) (c1_ok rfl ((late_res K nz h2 h3).1 k)))
theorem tb5_ok (K : Kn w L) (nz : (w.s.cr w.d).nz) {m : Int} (h2 : 2 ≤ m) (h3 : m ≤ 3) : Tb5 ns (e9 s2 s3 s4 s5 s6 s7 (.val (.lst [(sg w 0).D, (sg w m).D, (sg w 4).D, (sg w L).D])) (.val (.lst [(rv L (sg w L)).D, (rv L (sg w 4)).D, (rv L (sg w m)).D, (rv L (sg w 0)).D])) (.val (wayD w.low)) (.val (wayD (bk w L).low)) s12 s13 s14 s15 s16 s17 s18 s19) k =
    some (.nx (e9 s2 s3 s4 s5 s6 s7 (.val (.lst [(sg w 0).D, (sg w m).D, (sg w 4).D, (sg w L).D])) (.val (.lst [(rv L (sg w L)).D, (rv L (sg w 4)).D, (rv L (sg w m)).D, (rv L (sg w 0)).D])) (.val (wayD w.low)) (.val (wayD (bk w L).low)) s12 s13 s14 s15 s16 s17 s18 s19), k) := by
  have F := f4 K nz h2 h3
  have l0 := K.l0
  have i1 := is_seen_ok (k := k) (w := w.low) (rows := [sg w 0, sg w m, sg w 4, sg w L]) (x := sg w 0) (y := sg w L) (low_bd K.b8) (by decide) (by simp) ⟨by show (-1 : Int) + 1 ≤ 0; omega, F.oa, by show (0 : Int) + 1 ≤ m; omega, F.ob, by show m + 1 ≤ 4; omega, F.oc, by show (4 : Int) + 1 ≤ L; omega, F.od, trivial⟩ (fun r hr => by
    rcases List.mem_cons.mp hr with rfl | hr
    · exact F.oa
    · exact all3 F.ob F.oc F.od r hr) rfl rfl F.oa F.od
  have i2 := is_seen_ok (k := k) (w := (bk w L).low) (rows := [rv L (sg w L), rv L (sg w 4), rv L (sg w m), rv L (sg w 0)]) (x := rv L (sg w L)) (y := rv L (sg w 0)) (low_bd (bk_bd K)) (by decide) (by simp) ⟨by show (-1 : Int) + 1 ≤ L - L; omega, F.pd, by show (L : Int) - L + 1 ≤ L - 4; omega, F.pc, by show (L : Int) - 4 + 1 ≤ L - m; omega, F.pb, by show (L : Int) - m + 1 ≤ L - 0; omega, F.pa, trivial⟩ (fun r hr => by
    rcases List.mem_cons.mp hr with rfl | hr
    · exact F.pd
    · exact all3 F.pc F.pb F.pa r hr) rfl rfl F.pd F.pa
  have b1 := (rows_res K nz h2 h3).2
  have b2 := (late_res K nz h2 h3).2
  rw [show (sg w 0).n = 0 from rfl, show (sg w L).n = (L : Int) from rfl, b1] at i1
  rw [b2] at i2
  generalize hR : D.lst [(sg w 0).D, (sg w m).D, (sg w 4).D, (sg w L).D] = R
  generalize hQ : D.lst [(rv L (sg w L)).D, (rv L (sg w 4)).D, (rv L (sg w m)).D, (rv L (sg w 0)).D] = Q
  have j1 : F_is_seen [w.low.D, R] k = some (.bl true, k) := by rw [← hR]; exact i1
  have j2 : F_is_seen [(bk w L).low.D, Q] k = some (.bl true, k) := by rw [← hQ]; exact i2
  have q1 := not_ok (tru_ok (isW (f := dV 10) (ρ := e9 s2 s3 s4 s5 s6 s7 (.val R) (.val Q) (.val (wayD w.low)) (.val (wayD (bk w L).low)) s12 s13 s14 s15 s16 s17 s18 s19) (k := k) (k1 := k) (w := w.low) rfl))
  have q2 := not_ok (tru_ok (isW (f := dV 11) (ρ := e9 s2 s3 s4 s5 s6 s7 (.val R) (.val Q) (.val (wayD w.low)) (.val (wayD (bk w L).low)) s12 s13 s14 s15 s16 s17 s18 s19) (k := k) (k1 := k) (w := (bk w L).low) rfl))
  have q3 := not_ok (tru_ok (f := dCall 2 F_is_seen (dCons (dTup (dCons (dFld "start" (dV 10)) (dCons (dFld "step" (dV 10)) (dNil)))) (dCons (dV 8) (dNil)))) (ρ := e9 s2 s3 s4 s5 s6 s7 (.val R) (.val Q) (.val (wayD w.low)) (.val (wayD (bk w L).low)) s12 s13 s14 s15 s16 s17 s18 s19) (k := k) (c2_ok (tup2_ok (un_ok rfl rfl) (un_ok rfl rfl)) rfl j1))
  have q4 := not_ok (tru_ok (f := dCall 2 F_is_seen (dCons (dTup (dCons (dFld "start" (dV 11)) (dCons (dFld "step" (dV 11)) (dNil)))) (dCons (dV 9) (dNil)))) (ρ := e9 s2 s3 s4 s5 s6 s7 (.val R) (.val Q) (.val (wayD w.low)) (.val (wayD (bk w L).low)) s12 s13 s14 s15 s16 s17 s18 s19) (k := k) (c2_ok (tup2_ok (un_ok rfl rfl) (un_ok rfl rfl)) rfl j2))
  exact (sif_f (or_f q1 (or_f q2 (or_f q3 q4)))).trans rfl
theorem tb6_ok (K : Kn w L) (nz : (w.s.cr w.d).nz) : Tb6 ns (e9 s2 s3 (.val (.int L)) s5 s6 s7 s8 s9 (.val (wayD w.low)) (.val (wayD (bk w L).low)) s12 s13 s14 s15 s16 s17 s18 s19) k = some (.nx (e9 s2 s3 (.val (.int L)) s5 s6 s7 s8 s9 (.val (wayD w.low)) (.val (wayD (bk w L).low)) s12 s13 s14 s15 s16 s17 s18 s19), k) := by
  have l1 := K.l1
  refine (sif_f (any_no (it_last l1) (by rw [len_ints0]; omega) fun d hd => ?_)).trans rfl
  obtain ⟨i, hi, rfl⟩ := List.mem_map.mp hd
  obtain ⟨h0, h1⟩ := mem_ints0 hi
  have b1 := seen_any (k := k) (low_bd (bk_bd K)) h0 (by omega) (by decide)
  have b2 := seen_any (k := k) (n := (L : Int) - i) (low_bd K.b8) (by omega) (by omega) (by decide)
  have z2 := at_nz nz ((L : Int) - i)
  have d1 := low_at (bk w L) i
  rw [bk_at] at d1
  have d2 := low_at w ((L : Int) - i)
  have es := sn_dir (d1.trans d2.symm) (d1.nz z2) (d2.nz z2)
  rw [es] at b1
  obtain ⟨e1, e2⟩ := sn_self (w.low.at (L - i))
  exact selfV e2 e1 (c2_ok (tup2_ok (un_ok rfl rfl) (un_ok rfl rfl)) rfl b1) (c2_ok (tup2_ok (un_ok rfl rfl) (un_ok rfl rfl)) (bin_ok rfl rfl rfl) b2)
theorem tb7_ok (hn : ns.length ≤ 63) : ∃ (q : Ve) (k' : Nat), Prim q ∧ q.Bd 10 ∧ Tb7 ns (e9 s2 s3 s4 s5 s6 s7 s8 s9 s10 s11 s12 s13 s14 s15 s16 s17 s18 s19) k = some (.nx (e9 s2 s3 s4 s5 s6 s7 s8 s9 s10 s11 (.val q.D) s13 s14 s15 s16 s17 s18 s19), k') := by
  obtain ⟨p, k', z, b, q, e⟩ := skyV hn (k := k)
  exact ⟨p, k', q.prim, b.mono (by decide), asg_ok (c1_ok (F := F__law_sky ns) rfl e)⟩
theorem tb8_ok {a b c d : Rw} {x y z : D} {q : Ve} : Tb8 ns (e9 s2 s3 (.val (.int L)) s5 s6 (.val (.lst [x, y, .int 4, z])) (.val (.lst [a.D, b.D, c.D, d.D])) s9 s10 s11 (.val q.D) s13 s14 s15 s16 s17 s18 s19) k =
    some (.nx (e9 s2 s3 (.val (.int L)) s5 s6 (.val (.lst [x, y, .int 4, z])) (.val (.lst [a.D, b.D, c.D, d.D])) s9 s10 s11 (.val q.D) (.val (.lst [a.D, b.D, (⟨4, q⟩ : Rw).D, d.D])) (.val (.lst [(rv L d).D, (rv L ⟨4, q⟩).D, (rv L b).D, (rv L a).D])) s15 s16 s17 s18 s19), k) := by
  have t : dBin D.add (dBin D.add (dSl (dV 8) (dNoPart) (dPart (dC (.int 2)))) (dLst (dCons (dTup (dCons (dBin D.ix (dV 7) (dC (.int 2))) (dCons (dV 12) (dNil)))) (dNil)))) (dSl (dV 8) (dPart (dC (.int 3))) (dNoPart)) (e9 s2 s3 (.val (.int L)) s5 s6 (.val (.lst [x, y, .int 4, z])) (.val (.lst [a.D, b.D, c.D, d.D])) s9 s10 s11 (.val q.D) s13 s14 s15 s16 s17 s18 s19) k = some (.lst [a.D, b.D, (⟨4, q⟩ : Rw).D, d.D], k) := rfl
  have t2 : dUn D.rev (dBin D.add (dBin D.add (dSl (dV 8) (dNoPart) (dPart (dC (.int 2)))) (dLst (dCons (dTup (dCons (dBin D.ix (dV 7) (dC (.int 2))) (dCons (dV 12) (dNil)))) (dNil)))) (dSl (dV 8) (dPart (dC (.int 3))) (dNoPart))) (e9 s2 s3 (.val (.int L)) s5 s6 (.val (.lst [x, y, .int 4, z])) (.val (.lst [a.D, b.D, c.D, d.D])) s9 s10 s11 (.val q.D) s13 s14 s15 s16 s17 s18 s19) k = some (.lst [d.D, (⟨4, q⟩ : Rw).D, b.D, a.D], k) := un_ok t rfl
  exact par2_ok t (lcg_ok (items_ok t2 rfl) (lcg_put put2 (late_step (r := d) rfl) (lcg_put put2 (late_step (r := ⟨4, q⟩) rfl) (lcg_put put2 (late_step (r := b) rfl) (lcg_put put2 (late_step (r := a) rfl) rfl)))) rfl)
theorem isN {f : Sem} {ρ : Env} {k1 i : Nat} (h : f ρ k = some (noD i, k1)) : dIsi (.own .NoWay) f ρ k = some (.bl true, k1) := by simp only [dIsi, M.bind, h]; rfl
theorem isNW {f : Sem} {ρ : Env} {k1 : Nat} {u : Wy} (h : f ρ k = some (wayD u, k1)) : dIsi (.own .NoWay) f ρ k = some (.bl false, k1) := by simp only [dIsi, M.bind, h]; rfl
open Classical in
theorem isNo {a b c d : Rw} {f : Sem} {ρ : Env} (oa : a.Ok) (ob : b.Ok) (oc : c.Ok) (od : d.Ok) (h1 : a.n < b.n) (h2 : b.n < c.n) (h3 : c.n < d.n) (e : (a.p.cr d.p).nz) (hf : f ρ k = some (.lst [a.D, b.D, c.D, d.D], k)) :
    dIsi (.own .NoWay) (dCall 1 F_judge_way (dCons f dNil)) ρ k = some (.bl (decide (∀ w, seenB w [a, b, c, d] a.n d.n = false)), k) := by
  obtain ⟨r, hr, ⟨i, rfl, n⟩ | ⟨u, rfl, hu, _⟩⟩ := judge4_res oa ob oc od h1 h2 h3 e
  · rw [decide_eq_true n]
    exact isN (c1_ok hf (hr k))
  · rw [decide_eq_false fun z => by rw [z u] at hu; cases hu]
    exact isNW (c1_ok hf (hr k))
theorem tb9_ok (K : Kn w L) (nz : (w.s.cr w.d).nz) {m : Int} (h2 : 2 ≤ m) (h3 : m ≤ 3) {q : Ve} (pq : Prim q) (bq : q.Bd 10) : Tb9 ns (e9 s2 s3 s4 s5 s6 s7 s8 s9 s10 s11 s12 (.val (.lst [(sg w 0).D, (sg w m).D, (⟨4, q⟩ : Rw).D, (sg w L).D])) (.val (.lst [(rv L (sg w L)).D, (rv L ⟨4, q⟩).D, (rv L (sg w m)).D, (rv L (sg w 0)).D])) s15 s16 s17 s18 s19) k =
    some (.nx (e9 s2 s3 s4 s5 s6 s7 s8 s9 s10 s11 s12 (.val (.lst [(sg w 0).D, (sg w m).D, (⟨4, q⟩ : Rw).D, (sg w L).D])) (.val (.lst [(rv L (sg w L)).D, (rv L ⟨4, q⟩).D, (rv L (sg w m)).D, (rv L (sg w 0)).D])) s15 s16 s17 s18 s19), k) := by
  have F := f4 K nz h2 h3
  have l0 := K.l0; have l1 := K.l1
  have oc : (⟨4, q⟩ : Rw).Ok := ⟨by show (0 : Int) ≤ 4; decide, by show (4 : Int) ≤ 99; decide, pq, bq⟩
  have pc : (rv L ⟨4, q⟩).Ok := rv_ok oc (by show 0 ≤ (L : Int) - 4; omega) (by show (L : Int) - 4 ≤ 99; omega)
  have t1 := isNo (k := k) (f := dV 13) (ρ := e9 s2 s3 s4 s5 s6 s7 s8 s9 s10 s11 s12 (.val (.lst [(sg w 0).D, (sg w m).D, (⟨4, q⟩ : Rw).D, (sg w L).D])) (.val (.lst [(rv L (sg w L)).D, (rv L ⟨4, q⟩).D, (rv L (sg w m)).D, (rv L (sg w 0)).D])) s15 s16 s17 s18 s19) F.oa F.ob oc F.od (by show (0 : Int) < m; omega) (by show m < 4; omega) (by show (4 : Int) < L; omega) F.e rfl
  have t2 := isNo (k := k) (f := dV 14) (ρ := e9 s2 s3 s4 s5 s6 s7 s8 s9 s10 s11 s12 (.val (.lst [(sg w 0).D, (sg w m).D, (⟨4, q⟩ : Rw).D, (sg w L).D])) (.val (.lst [(rv L (sg w L)).D, (rv L ⟨4, q⟩).D, (rv L (sg w m)).D, (rv L (sg w 0)).D])) s15 s16 s17 s18 s19) F.pd pc F.pb F.pa (by show (L : Int) - L < L - 4; omega) (by show (L : Int) - 4 < L - m; omega) (by show (L : Int) - m < L - 0; omega) ((cr_swap_nz _ _).mp F.e) rfl
  have key := all_bk (P := fun v => seenB v [rv L (sg w L), rv L ⟨4, q⟩, rv L (sg w m), rv L (sg w 0)] (rv L (sg w L)).n (rv L (sg w 0)).n) (Q := fun v => seenB v [sg w 0, sg w m, ⟨4, q⟩, sg w L] (sg w 0).n (sg w L).n) L fun v => seen4_bk v L (sg w 0) (sg w m) ⟨4, q⟩ (sg w L)
  rw [decide_eq_decide.mpr key] at t2
  exact (sif_f (ne_bl t1 t2)).trans rfl
theorem tb10_ok {a b c d e f g h : D} : Tb10 ns (e9 s2 s3 s4 s5 s6 s7 (.val (.lst [a, b, c, d])) (.val (.lst [e, f, g, h])) s10 s11 s12 s13 s14 s15 s16 s17 s18 s19) k =
    some (.nx (e9 s2 s3 s4 s5 s6 s7 (.val (.lst [a, b, c, d])) (.val (.lst [e, f, g, h])) s10 s11 s12 s13 s14 (.val (.lst [a, d])) (.val (.lst [e, h])) s17 s18 s19), k) := rfl
theorem rng_1L {ρ : Env} (h4 : dV 4 ρ k = some (.int L, k)) (hL : L ≤ 11) : dRng (dCons (dC (.int 1)) (dCons (dV 4) dNil)) ρ k = some (rangeD 1 ((L : Int) - 1).toNat, k) := by
  refine dRng_ok (cons2_ok rfl h4) ?_
  have o1 : okR 1 = true := rfl
  have o2 : okR (L : Int) = true := by
    have e : (2 : Int) ^ 62 = 4611686018427387904 := rfl
    unfold okR
    rw [Bool.and_eq_true_iff, e]
    exact ⟨decide_eq_true (by omega), decide_eq_true (by omega)⟩
  show (if okR 1 && okR (L : Int) then some (rangeD 1 ((L : Int) - 1).toNat) else none) = _
  rw [o1, o2]
  rfl
theorem tb11_ok (K : Kn w L) (nz : (w.s.cr w.d).nz) {q : Ve} (pq : Prim q) (bq : q.Bd 10) : Tb11 ns (e9 s2 s3 (.val (.int L)) s5 s6 s7 s8 s9 s10 s11 (.val q.D) s13 s14 (.val (.lst [(sg w 0).D, (sg w L).D])) (.val (.lst [(rv L (sg w L)).D, (rv L (sg w 0)).D])) s17 s18 s19) k =
    some (.nx (e9 s2 s3 (.val (.int L)) s5 s6 s7 s8 s9 s10 s11 (.val q.D) s13 s14 (.val (.lst [(sg w 0).D, (sg w L).D])) (.val (.lst [(rv L (sg w L)).D, (rv L (sg w 0)).D])) s17 s18 s19), k) := by
  have F := f4 K nz (m := 2) (by decide) (by decide)
  have l0 := K.l0; have l1 := K.l1
  have hlen : (rangeD 1 ((L : Int) - 1).toNat).length ≤ 1000 := by unfold rangeD; rw [List.length_map, List.length_range]; omega
  refine (sif_f (any_no (rng_1L rfl l1) hlen fun d hd => ?_)).trans rfl
  obtain ⟨j, hj, rfl⟩ := List.mem_map.mp hd
  have hj' := List.mem_range.mp hj
  have i1 : (1 : Int) ≤ 1 + (j : Int) := by omega
  have i2 : 1 + (j : Int) < L := by omega
  generalize (1 : Int) + (j : Int) = i at *
  have w1 := within_ok (k := k) (n := i) F.oa F.od (by show (0 : Int) < L; omega) F.e (by omega) (by omega) (by show i ≠ 0; omega) (by show i ≠ L; omega) pq bq
  have w2 := within_ok (k := k) (n := (L : Int) - i) F.pd F.pa (by show (L : Int) - L < L - 0; omega) ((cr_swap_nz _ _).mp F.e) (by omega) (by omega) (by show (L : Int) - i ≠ L - L; omega) (by show (L : Int) - i ≠ L - 0; omega) pq bq
  have e1 : lowOf (sg w 0) (sg w L) i = (sg w 0).p := by
    unfold lowOf
    rw [if_neg (by show ¬ i < 0; omega), if_pos (by show i < L; omega)]
  have e2 : highOf (sg w 0) (sg w L) i = (sg w L).p := by
    unfold highOf
    rw [if_neg (by show ¬ i < 0; omega), if_pos (by show i < L; omega)]
  have e3 : lowOf (rv L (sg w L)) (rv L (sg w 0)) (L - i) = (sg w L).p := by
    unfold lowOf
    rw [if_neg (by show ¬ (L : Int) - i < L - L; omega), if_pos (by show (L : Int) - i < L - 0; omega)]
    rfl
  have e4 : highOf (rv L (sg w L)) (rv L (sg w 0)) (L - i) = (sg w 0).p := by
    unfold highOf
    rw [if_neg (by show ¬ (L : Int) - i < L - L; omega), if_pos (by show (L : Int) - i < L - 0; omega)]
    rfl
  rw [e1, e2] at w1
  rw [e3, e4, decide_eq_decide.mpr (btw_swap _ _ _)] at w2
  generalize decide (Btw (sg w 0).p q (sg w L).p) = b at *
  exact selfV (d := .bl b) (fun _ _ z => by cases z) (by cases b <;> decide +kernel) (c3_ok rfl rfl rfl w1) (c3_ok rfl (bin_ok rfl rfl rfl) rfl w2)
theorem ub_ok (hn : ns.length ≤ 63) (K : Kn w L) (nz : (w.s.cr w.d).nz) : ∃ (s7 s8 s9 s10 s11 s12 s13 s14 s15 s16 : Slot) (k' : Nat), Ub ns (e9 s2 (.val w.D) (.val (.int L)) (.val (bk w L).D) (.val (w.s.cr w.d).lst.D) s7' s8' s9' s10' s11' s12' s13' s14' s15' s16' s17 s18 s19) k =
    some (.nx (e9 s2 (.val w.D) (.val (.int L)) (.val (bk w L).D) (.val (w.s.cr w.d).lst.D) s7 s8 s9 s10 s11 s12 s13 s14 s15 s16 s17 s18 s19), k') := by
  obtain ⟨k0, p0⟩ := tb0_ok (ns := ns) (k := k) (s2 := s2) (s7 := s7') (s8 := s8') (s9 := s9') (s10 := s10') (s11 := s11') (s12 := s12') (s13 := s13') (s14 := s14') (s15 := s15') (s16 := s16') (s17 := s17) (s18 := s18) (s19 := s19) hn K nz
  unfold Ub
  rw [seq_nx p0]
  obtain ⟨m, k1, h2, h3, p1⟩ := tb1_ok (ns := ns) (k := k0) (L := L) (s2 := s2) (s3 := .val w.D) (s5 := .val (bk w L).D) (s6 := .val (w.s.cr w.d).lst.D) (s7 := s7') (s8 := s8') (s9 := s9') (s10 := s10') (s11 := s11') (s12 := s12') (s13 := s13') (s14 := s14') (s15 := s15') (s16 := s16') (s17 := s17) (s18 := s18) (s19 := s19) hn
  rw [seq_nx p1, seq_nx (tb2_ok K nz h2 h3), seq_nx tb3_ok, seq_nx (tb4_ok K nz h2 h3), seq_nx (tb5_ok K nz h2 h3), seq_nx (tb6_ok K nz)]
  obtain ⟨q, k2, pq, bq, p7⟩ := tb7_ok (ns := ns) (k := k1) (s2 := s2) (s3 := .val w.D) (s4 := .val (.int L)) (s5 := .val (bk w L).D) (s6 := .val (w.s.cr w.d).lst.D) (s7 := .val (.lst [.int 0, .int m, .int 4, .int L])) (s8 := .val (.lst [(sg w 0).D, (sg w m).D, (sg w 4).D, (sg w L).D])) (s9 := .val (.lst [(rv L (sg w L)).D, (rv L (sg w 4)).D, (rv L (sg w m)).D, (rv L (sg w 0)).D])) (s10 := .val (wayD w.low)) (s11 := .val (wayD (bk w L).low)) (s12 := s12') (s13 := s13') (s14 := s14') (s15 := s15') (s16 := s16') (s17 := s17) (s18 := s18) (s19 := s19) hn
  rw [seq_nx p7, seq_nx tb8_ok, seq_nx (tb9_ok K nz h2 h3 pq bq), seq_nx tb10_ok, seq_nx (tb11_ok K nz pq bq)]
  exact ⟨_, _, _, _, _, _, _, _, _, _, _, rfl⟩
end
end Sky

end
section
namespace Sky
open PySem PySem.Spec PyProof.Rows L2
-- ### k91, lots 
theorem non_in0 (p q : Ve) : cIn .non (.lst [p.D, q.D]) = some false ∧ cIn .non (.lst [.non, q.D]) = some true ∧ cIn .non (.lst [p.D, .non]) = some true := by
  refine ⟨?_, ?_, ?_⟩ <;> simp [cIn, memP, D.py, D.pys, SeqAt.shaped, PyData.canLay0, PyData.canLayAll0, PyData.depth, PyData.depthAll, PyData.eqv, PyData.eqvAll]
theorem non_in (p q : Ve) : cIn .non (.lst [sn p, sn q]) = some (decide (¬ p.nz ∨ ¬ q.nz)) := by
  unfold sn
  by_cases h1 : p.nz
  · by_cases h2 : q.nz
    · rw [if_pos h1, if_pos h2, decide_eq_false (fun z => z.elim (fun z => z h1) fun z => z h2)]
      exact (non_in0 _ _).1
    · rw [if_pos h1, if_neg h2, decide_eq_true (.inr h2)]
      exact (non_in0 _ p.lst).2.2
  · by_cases h2 : q.nz
    · rw [if_neg h1, if_pos h2, decide_eq_true (.inl h1)]
      exact (non_in0 p _).2.1
    · rw [if_neg h1, if_neg h2, decide_eq_true (.inl h1)]
      decide +kernel
def badN (w v : Wy) (n : Int) : Bool := decide (¬ (w.at n).nz ∨ ¬ (v.at n).nz) || decide ((w.at n).lst = (v.at n).lst)
abbrev ptsD (w v : Wy) (n : Int) : D := .lst [sn (w.at n), sn (v.at n)]
section
variable {ns : List Int} {k : Nat} {w v : Wy} {L : Nat} {s2 s3 s4 s5 s6 s7 s8 s9 s10 s11 s12 s13 s14 s15 s16 s17 s18 s19 : Slot}
theorem ta8_ok (K : Kn w L) (Kv : Kn v L) : Ta8 ns (e9 s2 (.val w.D) (.val (.int L)) s5 s6 s7 s8 s9 s10 (.val v.D) s12 s13 s14 s15 s16 s17 s18 s19) k =
    some (.nx (e9 s2 (.val w.D) (.val (.int L)) s5 s6 s7 s8 s9 s10 (.val v.D) s12 s13 s14 s15 s16 s17 (.val (.lst [.tup [.int 0, ptsD w v 0], .tup [.int 3, ptsD w v 3], .tup [.int L, ptsD w v L]])) s19), k) := by
  have l1 := K.l1
  have st : ∀ n : Int, 0 ≤ n → n ≤ 99 → dTup (dCons (dV 23) (dCons (dLst (dCons (dCall 2 F_seen (dCons (dV 3) (dCons (dV 23) (dNil)))) (dCons (dCall 2 F_seen (dCons (dV 11) (dCons (dV 23) (dNil)))) (dNil)))) (dNil))) ((wipeE (e9 s2 (.val w.D) (.val (.int L)) s5 s6 s7 s8 s9 s10 (.val v.D) s12 s13 s14 s15 s16 s17 s18 s19) [23]).set 23 (.val (.int n))) k = some (.tup [.int n, ptsD w v n], k) := fun n h0 h1 =>
    tup2_ok rfl (dlst_ok (cons2_ok (c2_ok rfl rfl (seen_any K.b h0 h1 (by decide))) (c2_ok rfl rfl (seen_any Kv.b h0 h1 (by decide)))) rfl)
  exact asg_ok (lc_ok (k1 := k) (ds := [.int 0, .int 3, .int L]) rfl (lc_put (st 0 (by decide) (by decide)) (lc_put (st 3 (by decide) (by decide)) (lc_put (st L (by omega) (by omega)) lc_nil))) rfl)
theorem bad_ok {n : Int} {ρ : Env} (h : dV 27 ρ k = some (ptsD w v n, k)) : dOrV (dBin (fun x y => (cIn x y).map D.bl) (dC .non) (dV 27)) (dEq eqT false (dBin D.ix (dV 27) (dC (.int 0))) (dBin D.ix (dV 27) (dC (.int 1)))) ρ k = some (.bl (badN w v n), k) := by
  have t : dBin (fun x y => (cIn x y).map D.bl) (dC .non) (dV 27) ρ k = some (.bl (decide (¬ (w.at n).nz ∨ ¬ (v.at n).nz)), k) := bin_ok rfl h (by simp only [non_in]; rfl)
  unfold badN
  by_cases z : ¬ (w.at n).nz ∨ ¬ (v.at n).nz
  · rw [decide_eq_true z] at t ⊢
    exact orV_t t
  · rw [decide_eq_false z] at t ⊢
    rw [Bool.false_or, orV_f t]
    have z1 : (w.at n).nz := Classical.not_not.mp fun q => z (.inl q)
    have z2 : (v.at n).nz := Classical.not_not.mp fun q => z (.inr q)
    have e1 : sn (w.at n) = (w.at n).lst.D := if_pos z1
    have e2 : sn (v.at n) = (v.at n).lst.D := if_pos z2
    unfold ptsD at h
    rw [e1, e2] at h
    have := veV (neg := false) (f := dBin D.ix (dV 27) (dC (.int 0))) (g := dBin D.ix (dV 27) (dC (.int 1))) (ρ := ρ) (k := k) (k1 := k) (k2 := k) (p := (w.at n).lst) (q := (v.at n).lst) (bin_ok h rfl rfl) (bin_ok h rfl rfl)
    rw [Bool.false_xor] at this
    exact this
theorem lots_any {x19 : Slot} : dNotB (dTru (dBi bAny (dCons (dLc [23, 27] (dItems (dV 18)) (tgTup 2 (tgsCons (tgName 23) (tgsCons (tgName 27) (tgsNil)))) (dTrue) (dOrV (dBin (fun x y => (cIn x y).map D.bl) (dC .non) (dV 27)) (dEq eqT false (dBin D.ix (dV 27) (dC (.int 0))) (dBin D.ix (dV 27) (dC (.int 1)))))) (dNil)))) (e9 s2 s3 s4 s5 s6 s7 s8 s9 s10 s11 s12 s13 s14 s15 s16 s17 (.val (.lst [.tup [.int 0, ptsD w v 0], .tup [.int 3, ptsD w v 3], .tup [.int L, ptsD w v L]])) x19) k =
    some (!(badN w v 0 || (badN w v 3 || badN w v L)), k) := by
  have e : [badN w v 0, badN w v 3, badN w v L].any id = (badN w v 0 || (badN w v 3 || badN w v L)) := by simp
  rw [← e]
  exact not_ok (tru_ok (bi_ok (cons1_ok (lcg_ok (k1 := k) (ds := [.tup [.int 0, ptsD w v 0], .tup [.int 3, ptsD w v 3], .tup [.int L, ptsD w v L]]) rfl (lcg_put put2 (bad_ok rfl) (lcg_put put2 (bad_ok rfl) (lcg_put put2 (bad_ok rfl) rfl))) rfl)) rfl))
def ntOf (w v : Wy) (n : Int) : Nt := ⟨n, (w.at n).lst, (v.at n).lst⟩
def rvN (L : Int) (t : Nt) : Nt := ⟨L - t.n, t.p, t.q⟩
theorem good_nt (K : Kn w L) (Kv : Kn v L) {n : Int} (h0 : 0 ≤ n) (h1 : n < 64) (h : badN w v n = false) : (ntOf w v n).Ok ∧ ptsD w v n = .lst [(ntOf w v n).p.D, (ntOf w v n).q.D] := by
  unfold badN at h
  obtain ⟨h2, h3⟩ := Bool.or_eq_false_iff.mp h
  have h2 := of_decide_eq_false h2
  have h3 := of_decide_eq_false h3
  have z1 : (w.at n).nz := Classical.not_not.mp fun q => h2 (.inl q)
  have z2 : (v.at n).nz := Classical.not_not.mp fun q => h2 (.inr q)
  refine ⟨⟨h0, by show n ≤ 99; omega, lst_prim z1, lst_prim z2, (lst_bd z1 (at_bd9 K.bs K.bd h0 h1)).mono (by decide), (lst_bd z2 (at_bd9 Kv.bs Kv.bd h0 h1)).mono (by decide), h3⟩, ?_⟩
  have e1 : sn (w.at n) = (w.at n).lst.D := if_pos z1
  have e2 : sn (v.at n) = (v.at n).lst.D := if_pos z2
  show D.lst [sn (w.at n), sn (v.at n)] = _
  rw [e1, e2]
  rfl
theorem rvN_ok {t : Nt} {L : Int} (o : t.Ok) (h0 : 0 ≤ L - t.n) (h1 : L - t.n ≤ 99) : (rvN L t).Ok := ⟨h0, h1, o.p, o.q, o.bp, o.bq, o.ne⟩
theorem tc0_ok {a b c : Nt} : Tc0 ns (e9 s2 s3 (.val (.int L)) s5 s6 s7 s8 s9 s10 s11 s12 s13 s14 s15 s16 s17 (.val (nts a b c)) s19) k =
    some (.nx (e9 s2 s3 (.val (.int L)) s5 s6 s7 s8 s9 s10 s11 s12 s13 s14 s15 s16 s17 (.val (nts a b c)) (.val (nts (rvN L c) (rvN L b) (rvN L a)))), k) := by
  have st : ∀ (t : Nt) (ρ : Env), ρ = ((wipeE (e9 s2 s3 (.val (.int L)) s5 s6 s7 s8 s9 s10 s11 s12 s13 s14 s15 s16 s17 (.val (nts a b c)) s19) [23, 27]).set 23 (.val (.int t.n))).set 27 (.val (.lst [t.p.D, t.q.D])) → dTup (dCons (dBin D.sub (dV 4) (dV 23)) (dCons (dV 27) (dNil))) ρ k = some ((rvN L t).D, k) := fun t ρ h => by
    subst h
    exact tup2_ok (bin_ok rfl rfl rfl) rfl
  exact asg_ok (lcg_ok (k1 := k) (ds := [c.D, b.D, a.D]) rfl (lcg_put put2 (st c _ rfl) (lcg_put put2 (st b _ rfl) (lcg_put put2 (st a _ rfl) rfl))) rfl)
theorem tc1_ok {a b c : Nt} (oa : a.Ok) (ob : b.Ok) (oc : c.Ok) (h1 : a.n < b.n) (h2 : b.n < c.n) (h3 : c.n ≤ L) (hL : L ≤ 11) : Tc1 ns (e9 s2 s3 s4 s5 s6 s7 s8 s9 s10 s11 s12 s13 s14 s15 s16 s17 (.val (nts a b c)) (.val (nts (rvN L c) (rvN L b) (rvN L a)))) k =
    some (.nx (e9 s2 s3 s4 s5 s6 s7 s8 s9 s10 s11 s12 s13 s14 s15 s16 s17 (.val (nts a b c)) (.val (nts (rvN L c) (rvN L b) (rvN L a)))), k) := by
  have l0 := oa.l
  have pa := rvN_ok (L := L) oa (by omega) (by omega)
  have pb := rvN_ok (L := L) ob (by omega) (by omega)
  have pc := rvN_ok (L := L) oc (by omega) (by omega)
  have g1 : (rvN L c).n < (rvN L b).n := by show (L : Int) - c.n < L - b.n; omega
  have g2 : (rvN L b).n < (rvN L a).n := by show (L : Int) - b.n < L - a.n; omega
  have so1 := sortings_ok (k := k) (most := 9) (by decide) (by decide) oa ob oc h1 h2
  have so2 := sortings_ok (k := k) (most := 9) (by decide) (by decide) pc pb pa g1 g2
  have er : oo (rvN L c) (rvN L b) (rvN L a) = fun x y z => oo a b c z y x := oo_rv L a b c
  obtain ⟨el, _⟩ := sol_rv (oo a b c)
  have ap1 := apart_ok (k := k) (f := dV 18) (ρ := e9 s2 s3 s4 s5 s6 s7 s8 s9 s10 s11 s12 s13 s14 s15 s16 s17 (.val (nts a b c)) (.val (nts (rvN L c) (rvN L b) (rvN L a)))) oa ob oc h1 h2 rfl
  have ap2 := apart_ok (k := k) (f := dV 19) (ρ := e9 s2 s3 s4 s5 s6 s7 s8 s9 s10 s11 s12 s13 s14 s15 s16 s17 (.val (nts a b c)) (.val (nts (rvN L c) (rvN L b) (rvN L a)))) pc pb pa g1 g2 rfl
  rw [er, el] at ap2
  have c1 : dCall 2 F_sortings (dCons (dV 18) (dCons (dC (.int 9)) (dNil))) (e9 s2 s3 s4 s5 s6 s7 s8 s9 s10 s11 s12 s13 s14 s15 s16 s17 (.val (nts a b c)) (.val (nts (rvN L c) (rvN L b) (rvN L a)))) k = some (.lst (((sol (oo a b c)).take 9).map (oneD r3D)), k) := c2_ok rfl rfl so1
  have c2 : dCall 2 F_sortings (dCons (dV 19) (dCons (dC (.int 9)) (dNil))) (e9 s2 s3 s4 s5 s6 s7 s8 s9 s10 s11 s12 s13 s14 s15 s16 s17 (.val (nts a b c)) (.val (nts (rvN L c) (rvN L b) (rvN L a)))) k = some (.lst (((sol (oo (rvN L c) (rvN L b) (rvN L a))).take 9).map (oneD r3D)), k) := c2_ok rfl rfl so2
  have n1 : (((sol (oo a b c)).take 9).map (oneD r3D)).length = min 9 (sol (oo a b c)).length := by rw [List.length_map, List.length_take]
  have n2 : (((sol (oo (rvN L c) (rvN L b) (rvN L a))).take 9).map (oneD r3D)).length = min 9 (sol (oo a b c)).length := by rw [List.length_map, List.length_take, er, el]
  have b1 := bi_ok (g := bLen) (d := .int ((((sol (oo a b c)).take 9).map (oneD r3D)).length : Nat)) (cons1_ok c1) rfl
  have b2 := bi_ok (g := bLen) (d := .int ((((sol (oo (rvN L c) (rvN L b) (rvN L a))).take 9).map (oneD r3D)).length : Nat)) (cons1_ok c2) rfl
  rw [n1] at b1
  rw [n2] at b2
  have q1 := ne_int b1 b2
  have hp : ∀ x ∈ ((sol (oo a b c)).take 9).map (oneD r3D), Pl 10 x := fun x hx => by
    obtain ⟨o, _, rfl⟩ := List.mem_map.mp hx
    exact pl_tup fun y hy => by
      obtain ⟨r, _, rfl⟩ := List.mem_map.mp hy
      exact pl3 r
  have t1 := eqB_ok (neg := true) (g := dLst dNil) (k2 := k) (fun _ _ z => by cases z) c1 rfl (eq_nilL (by decide) hp)
  have q2 := and_2f t1 (ne_bl ap1 ap2) rfl
  exact (sif_f (or_f q1 q2)).trans rfl
theorem ta9_ok (K : Kn w L) (Kv : Kn v L) : ∃ s19', Ta9 ns (e9 s2 s3 (.val (.int L)) s5 s6 s7 s8 s9 s10 s11 s12 s13 s14 s15 s16 s17 (.val (.lst [.tup [.int 0, ptsD w v 0], .tup [.int 3, ptsD w v 3], .tup [.int L, ptsD w v L]])) s19) k =
    some (.nx (e9 s2 s3 (.val (.int L)) s5 s6 s7 s8 s9 s10 s11 s12 s13 s14 s15 s16 s17 (.val (.lst [.tup [.int 0, ptsD w v 0], .tup [.int 3, ptsD w v 3], .tup [.int L, ptsD w v L]])) s19'), k) := by
  have l0 := K.l0; have l1 := K.l1
  have t := lots_any (k := k) (w := w) (v := v) (L := L) (s2 := s2) (s3 := s3) (s4 := .val (.int L)) (s5 := s5) (s6 := s6) (s7 := s7) (s8 := s8) (s9 := s9) (s10 := s10) (s11 := s11) (s12 := s12) (s13 := s13) (s14 := s14) (s15 := s15) (s16 := s16) (s17 := s17) (x19 := s19)
  rw [ta9_eq]
  cases hb : (badN w v 0 || (badN w v 3 || badN w v L)) with
  | true =>
    rw [hb] at t
    exact ⟨s19, (sif_f t).trans rfl⟩
  | false =>
    rw [hb] at t
    obtain ⟨h0, hb⟩ := Bool.or_eq_false_iff.mp hb
    obtain ⟨h3, hL⟩ := Bool.or_eq_false_iff.mp hb
    obtain ⟨o0, e0⟩ := good_nt K Kv (n := 0) (by decide) (by decide) h0
    obtain ⟨o3, e3⟩ := good_nt K Kv (n := 3) (by decide) (by decide) h3
    obtain ⟨oL, eL⟩ := good_nt K Kv (n := L) (by omega) (by omega) hL
    refine ⟨.val (nts (rvN L (ntOf w v L)) (rvN L (ntOf w v 3)) (rvN L (ntOf w v 0))), (sif_t t).trans ?_⟩
    have ed : D.lst [.tup [.int 0, ptsD w v 0], .tup [.int 3, ptsD w v 3], .tup [.int L, ptsD w v L]] = nts (ntOf w v 0) (ntOf w v 3) (ntOf w v L) := by
      rw [e0, e3, eL]
      rfl
    rw [ed]
    rw [seq_nx tc0_ok, seq_nx (tc1_ok o0 o3 oL (by show (0 : Int) < 3; decide) (by show (3 : Int) < L; omega) (by show (L : Int) ≤ L; omega) l1)]
    rfl
theorem body (hn : ns.length ≤ 63) : ∃ (s3' s4' s5' s6' s7' s8' s9' s10' s11' s12' s13' s14' s15' s16' s17' s18' s19' : Slot) (k' : Nat), Lb ns (e9 s2 s3 s4 s5 s6 s7 s8 s9 s10 s11 s12 s13 s14 s15 s16 s17 s18 s19) k = some (.nx (e9 s2 s3' s4' s5' s6' s7' s8' s9' s10' s11' s12' s13' s14' s15' s16' s17' s18' s19'), k') := by
  obtain ⟨w, L, k1, K, p0⟩ := ta0_ok (ns := ns) (k := k) (s2 := s2) (s3 := s3) (s4 := s4) (s5 := s5) (s6 := s6) (s7 := s7) (s8 := s8) (s9 := s9) (s10 := s10) (s11 := s11) (s12 := s12) (s13 := s13) (s14 := s14) (s15 := s15) (s16 := s16) (s17 := s17) (s18 := s18) (s19 := s19) hn
  unfold Lb
  rw [seq_nx p0, seq_nx (ta1_ok K), seq_nx (ta2_ok K), seq_nx (ta3_ok K)]
  have mid : ∃ (x6 x7 x8 x9 x10 x11 x12 x13 x14 x15 x16 : Slot) (k2 : Nat), Ta4 ns (e9 s2 (.val w.D) (.val (.int L)) (.val (bk w L).D) (.val (cD w)) s7 s8 s9 s10 s11 s12 s13 s14 s15 s16 s17 s18 s19) k1 = some (.nx (e9 s2 (.val w.D) (.val (.int L)) (.val (bk w L).D) x6 x7 x8 x9 x10 x11 x12 x13 x14 x15 x16 s17 s18 s19), k2) := by
    rw [ta4_eq]
    by_cases nz : (w.s.cr w.d).nz
    · have ec : cD w = (w.s.cr w.d).lst.D := if_pos nz
      rw [ec]
      obtain ⟨x7, x8, x9, x10, x11, x12, x13, x14, x15, x16, k2, p⟩ := ub_ok (ns := ns) (k := k1) (s2 := s2) (s7' := s7) (s8' := s8) (s9' := s9) (s10' := s10) (s11' := s11) (s12' := s12) (s13' := s13) (s14' := s14) (s15' := s15) (s16' := s16) (s17 := s17) (s18 := s18) (s19 := s19) hn K nz
      exact ⟨_, x7, x8, x9, x10, x11, x12, x13, x14, x15, x16, k2, (sif_t (binB_ok rfl rfl rfl)).trans p⟩
    · have ec : cD w = .non := if_neg nz
      rw [ec]
      exact ⟨_, _, _, _, _, _, _, _, _, _, _, _, (sif_f (binB_ok (k2 := k1) rfl rfl rfl)).trans rfl⟩
  obtain ⟨x6, x7, x8, x9, x10, x11, x12, x13, x14, x15, x16, k2, p4⟩ := mid
  rw [seq_nx p4]
  obtain ⟨v, k3, bs, bd, p5⟩ := ta5_ok (ns := ns) (k := k2) (s2 := s2) (s3 := .val w.D) (s4 := .val (.int L)) (s5 := .val (bk w L).D) (s6 := x6) (s7 := x7) (s8 := x8) (s9 := x9) (s10 := x10) (s11 := x11) (s12 := x12) (s13 := x13) (s14 := x14) (s15 := x15) (s16 := x16) (s17 := s17) (s18 := s18) (s19 := s19) hn
  have Kv : Kn v L := ⟨bs, bd, K.l0, K.l1⟩
  rw [seq_nx p5, seq_nx (ta6_ok Kv), seq_nx (ta7_ok K Kv), seq_nx (ta8_ok K Kv)]
  obtain ⟨x19, p9⟩ := ta9_ok (ns := ns) (k := k3) (w := w) (v := v) (L := L) (s2 := s2) (s3 := .val w.D) (s5 := .val (bk w L).D) (s6 := x6) (s7 := x7) (s8 := x8) (s9 := x9) (s10 := x10) (s11 := .val v.D) (s12 := x12) (s13 := x13) (s14 := x14) (s15 := x15) (s16 := x16) (s17 := .val (bk v L).D) (s19 := s19) K Kv
  rw [seq_nx p9]
  exact ⟨_, _, _, _, _, _, _, _, _, _, _, _, _, _, _, _, _, _, rfl⟩
end
def Sh (ρ : Env) : Prop := ∃ s2 s3 s4 s5 s6 s7 s8 s9 s10 s11 s12 s13 s14 s15 s16 s17 s18 s19 : Slot, ρ = e9 s2 s3 s4 s5 s6 s7 s8 s9 s10 s11 s12 s13 s14 s15 s16 s17 s18 s19
theorem plain (ns : List Int) (hn : ns.length ≤ 63) : ∃ k', S_law ns E_law 0 = some (.ret (.bl true), k') := by
  obtain ⟨ρ', k', e, _⟩ := for_go (t := tgName 2) (b := Lb ns) (P := Sh) (rangeD 0 6) (ρ := E_law) (k := 0) ⟨_, _, _, _, _, _, _, _, _, _, _, _, _, _, _, _, _, _, rfl⟩ fun d _ ρ k h => by
    obtain ⟨s2, s3, s4, s5, s6, s7, s8, s9, s10, s11, s12, s13, s14, s15, s16, s17, s18, s19, rfl⟩ := h
    obtain ⟨s3', s4', s5', s6', s7', s8', s9', s10', s11', s12', s13', s14', s15', s16', s17', s18', s19', k2, p⟩ := body (ns := ns) (k := k) (s2 := .val d) (s3 := s3) (s4 := s4) (s5 := s5) (s6 := s6) (s7 := s7) (s8 := s8) (s9 := s9) (s10 := s10) (s11 := s11) (s12 := s12) (s13 := s13) (s14 := s14) (s15 := s15) (s16 := s16) (s17 := s17) (s18 := s18) (s19 := s19) hn
    exact ⟨e9 (.val d) s3 s4 s5 s6 s7 s8 s9 s10 s11 s12 s13 s14 s15 s16 s17 s18 s19, _, k2, rfl, p, _, _, _, _, _, _, _, _, _, _, _, _, _, _, _, _, _, _, rfl⟩
  refine ⟨k', ?_⟩
  rw [law_eq]
  have hr : sFor (dRng (dCons (dC (.int 6)) dNil)) (tgName 2) (Lb ns) E_law 0 = some (.nx ρ', k') := by
    rw [← e]; rfl
  rw [seq_nx hr]
  rfl
end Sky

end
section
theorem PySem.Challenge.cw_skyplaced_k91_time_the_other_way_holds : PySem.Challenge.rw_skyplaced_k91_time_the_other_way.Holds :=
  Sky.law_holds Sky.plain

end
