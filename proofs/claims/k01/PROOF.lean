import PyProof.Rows.All
import Wide.All
import OpenK.AllK
import Wide.FinOn
import HandS.ForMost
import HandS.Exc
import HandS.TryOnly
import HandS.ExcOwn
import PyProof.ToksMono
import HandS.WordsExc
import HandS.Zip
import HandS.TupAny
import HandS.TupLe
import HandS.Deep
import HandS.Wide
import HandS.IsInst
import HandS.ReplaceLit
import HandS.Star
import HandS.Style
import HandS.ReplaceList
import HandS.Iter
import KE.KDictZip
import PyProof.StrOps2
import HandS.Property
import HandS.MakeKwOnly
import HandS.ClsMeth
import PyProof.ReprRoads
import PyProof.StrLawsRepr
import PyProof.FitsInt
import PySem.Challenge.RW_thinnedrow_k01_pattern_texts
set_option Elab.async false
set_option linter.all false
set_option maxRecDepth 100000
/-! A layer of plain data over the hand layer: values as trees, a store of changing objects, readings as plain functions of data. -/
namespace L3
open PySem PySem.Spec L2
open PyProof.Rows hiding St
set_option autoImplicit false

/-- a dict's key: a number or a text -/
abbrev DK := Sum Int (List Nat)
/-- plain data; loc n: the n-th cell of the store -/
inductive D where
  | non | bl (b : Bool) | int (i : Int) | str (s : List Nat)
  | tup (ds : List D) | lst (ds : List D) | scr (ns : List Int) | dct (ks : List DK) (vs : List D) | obj (c : Nat) (vs : List D) | loc (n : Nat) | cst (v : V)

/-- an expression's or a slot's content: data, a list of one's own, an instance of one's own (in its __init__) -/
inductive Rv where
  | v (d : D) | ol (ds : List D) | oi (c : Nat) (vs : List D)
def Rv.own : Rv → Bool
  | .v _ => false
  | _ => true
/-- a cell of the store -/
inductive Cell where
  | lst (ds : List D) | dct (ks : List DK) (vs : List D) | ins (c : Nat) (vs : List D)
abbrev Mu := List Cell
abbrev Env' := List (Option Rv)
/-- an exception: its class, its fields -/
structure Exc where
  c : Nat
  vs : List D

/-- the classes of the text: where they stand, their attributes in order -/
structure Tab where
  ca : Nat → Addr
  fn : Nat → List Str
/-- the ghost: addresses that never change again; the store's addresses -/
structure Gh where
  F : Addr → Prop
  io : List Addr

variable {K : PySem.W.Frag} {T : Tab}

/-- a tuple of the written part -/
def KTup (K : PySem.W.Frag) (a : Addr) (xs : List V) : Prop :=
  ∃ (o : Obj) (its : Array Value) (n : Nat), K.lookup a = some o ∧ o.cls = .type "tuple" ∧ o.data = .seq its n ∧ its.size ≤ sizeLine ∧ Vals xs its.toList

/-- a list of the written part -/
def KLst (K : PySem.W.Frag) (a : Addr) (xs : List V) : Prop :=
  ∃ (o : Obj) (its : Array Value) (n : Nat), K.lookup a = some o ∧ o.cls = .type "list" ∧ o.dict = none ∧ o.data = .seq its n ∧ its.size ≤ sizeLine ∧ Vals xs its.toList

def strOf (s : List Nat) : Str := ⟨s.toArray⟩
def DK.key : DK → Key
  | .inl i => .inl i
  | .inr s => .inr (strOf s)

mutual
def Rep (K : PySem.W.Frag) (T : Tab) (G : Gh) (H : Hp) : D → V → Prop
  | .non, x => x = .non
  | .bl b, x => x = .bl b
  | .int i, x => x = .int i
  | .str s, x => x = .str (strOf s) ∧ s.length ≤ sizeLine ∧ ∀ c ∈ s, c < 0x110000
  | .tup ds, x => ∃ a vs, x = .ref a ∧ ((G.F a ∧ H a = some (.tup vs)) ∨ KTup K a vs) ∧ RepL K T G H ds vs
  | .lst ds, x => ∃ a vs, x = .ref a ∧ G.F a ∧ H a = some (.lst vs) ∧ RepL K T G H ds vs
  | .scr ns, x => ∃ a, x = .ref a ∧ ((G.F a ∧ ∃ o, H a = some (.frz o (.lst (ns.map V.int)))) ∨ KLst K a (ns.map V.int))
  | .dct ks vs, x => ∃ (a : Addr) (kvs : List (Key × V)), x = .ref a ∧ G.F a ∧ H a = some (.dK kvs) ∧ kvs.map (·.1) = ks.map DK.key ∧ RepL K T G H vs (kvs.map (·.2))
  | .obj c vs, x => ∃ a dx fs, x = .ref a ∧ G.F a ∧ H a = some (.ins (T.ca c) dx fs) ∧ fs.map (·.1) = T.fn c ∧ RepL K T G H vs (fs.map (·.2))
  | .loc n, x => ∃ a, x = .ref a ∧ G.io[n]? = some a
  | .cst v, x => x = v
def RepL (K : PySem.W.Frag) (T : Tab) (G : Gh) (H : Hp) : List D → List V → Prop
  | [], xs => xs = []
  | d :: ds, xs => ∃ y ys, xs = y :: ys ∧ Rep K T G H d y ∧ RepL K T G H ds ys
end

def CellOk (K : PySem.W.Frag) (T : Tab) (G : Gh) (H : Hp) (a : Addr) : Cell → Prop
  | .lst ds => ∃ vs, H a = some (.lst vs) ∧ RepL K T G H ds vs
  | .dct ks vs => ∃ kv : List (Key × V), H a = some (.dK kv) ∧ kv.map (·.1) = ks.map DK.key ∧ RepL K T G H vs (kv.map (·.2))
  | .ins c vs => ∃ dx fs, H a = some (.ins (T.ca c) dx fs) ∧ fs.map (·.1) = (T.fn c).take vs.length ∧ RepL K T G H vs (fs.map (·.2))

structure WfG (K : PySem.W.Frag) (T : Tab) (G : Gh) (μ : Mu) (H : Hp) : Prop where
  fz : ∀ a, G.F a → ∃ o, H a = some o
  ln : G.io.length = μ.length
  nd : G.io.Nodup
  nf : ∀ a ∈ G.io, ¬ G.F a
  ce : ∀ (n : Nat) a c, G.io[n]? = some a → μ[n]? = some c → CellOk K T G H a c

structure Ext (G : Gh) (H : Hp) (G' : Gh) (H' : Hp) : Prop where
  fr : ∀ a, G.F a → G'.F a
  io : ∃ l, G'.io = G.io ++ l
  keep : ∀ a o, H a = some o → a ∉ G.io → H' a = some o
  new : ∀ a ∈ G'.io, a ∉ G.io → H a = none
  newF : ∀ a, G'.F a → G.F a ∨ H a = none
  there : ∀ a ∈ G.io, ∃ o, H' a = some o

theorem CellOk.there {G : Gh} {H : Hp} {a : Addr} {c : Cell} (h : CellOk K T G H a c) : ∃ o, H a = some o := by
  cases c with
  | lst ds => obtain ⟨vs, e, _⟩ := h; exact ⟨_, e⟩
  | dct ks ds => obtain ⟨vs, e, _⟩ := h; exact ⟨_, e⟩
  | ins c ds => obtain ⟨dx, vs, e, _⟩ := h; exact ⟨_, e⟩
theorem WfG.there {G : Gh} {μ : Mu} {H : Hp} (w : WfG K T G μ H) {a : Addr} (h : a ∈ G.io) : ∃ o, H a = some o := by
  obtain ⟨n, hn, e⟩ := List.getElem_of_mem h
  have hm : n < μ.length := by rw [← w.ln]; exact hn
  exact (w.ce n a μ[n] (by rw [← e]; exact List.getElem?_eq_getElem hn) (List.getElem?_eq_getElem hm)).there

theorem Ext.refl {G : Gh} {μ : Mu} {H : Hp} (w : WfG K T G μ H) : Ext G H G H :=
  ⟨fun _ h => h, ⟨[], by simp⟩, fun _ _ h _ => h, fun a h n => absurd h n, fun _ h => .inl h, fun a h => w.there h⟩
theorem Ext.mem {G G' : Gh} {H H' : Hp} (x : Ext G H G' H') {a : Addr} (h : a ∈ G.io) : a ∈ G'.io := by
  obtain ⟨l, e⟩ := x.io
  rw [e]; exact List.mem_append_left _ h
theorem Ext.trans {G G1 G2 : Gh} {H H1 H2 : Hp} (x : Ext G H G1 H1) (y : Ext G1 H1 G2 H2) : Ext G H G2 H2 := by
  have back : ∀ a, H1 a = none → a ∉ G.io → H a = none := fun a h n => by
    cases e : H a with
    | none => rfl
    | some o => rw [x.keep a o e n] at h; cases h
  refine ⟨fun a h => y.fr a (x.fr a h), ?_, fun a o h n => y.keep a o (x.keep a o h n) fun z => ?_, fun a h n => ?_, fun a h => ?_, fun a h => y.there a (x.mem h)⟩
  · obtain ⟨l, e⟩ := x.io; obtain ⟨l', e'⟩ := y.io
    exact ⟨l ++ l', by rw [e', e, List.append_assoc]⟩
  · have := x.new a z n; rw [h] at this; cases this
  · by_cases z : a ∈ G1.io
    · exact x.new a z n
    · exact back a (y.new a h z) n
  · rcases y.newF a h with z | z
    · exact x.newF a z
    · by_cases q : a ∈ G.io
      · obtain ⟨o, e⟩ := x.there a q
        rw [e] at z; cases z
      · exact .inr (back a z q)
theorem Ext.none_back {G G1 : Gh} {H H1 : Hp} (x : Ext G H G1 H1) {a : Addr} (h : H1 a = none) : H a = none := by
  by_cases q : a ∈ G.io
  · obtain ⟨o, e⟩ := x.there a q
    rw [e] at h; cases h
  · cases e : H a with
    | none => rfl
    | some o => rw [x.keep a o e q] at h; cases h

/-- what a representation leans on is kept -/
structure Kp (G : Gh) (H : Hp) (G' : Gh) (H' : Hp) : Prop where
  fr : ∀ a, G.F a → G'.F a
  io : ∃ l, G'.io = G.io ++ l
  keep : ∀ a o, G.F a → H a = some o → H' a = some o
theorem Ext.kp {G G' : Gh} {μ : Mu} {H H' : Hp} (x : Ext G H G' H') (w : WfG K T G μ H) : Kp G H G' H' :=
  ⟨x.fr, x.io, fun a o f e => x.keep a o e fun z => w.nf a z f⟩
theorem Kp.refl (G : Gh) (H : Hp) : Kp G H G H := ⟨fun _ h => h, ⟨[], by simp⟩, fun _ _ _ h => h⟩
theorem Kp.trans {G G1 G2 : Gh} {H H1 H2 : Hp} (x : Kp G H G1 H1) (y : Kp G1 H1 G2 H2) : Kp G H G2 H2 := by
  refine ⟨fun a h => y.fr a (x.fr a h), ?_, fun a o f h => y.keep a o (x.fr a f) (x.keep a o f h)⟩
  obtain ⟨l, e⟩ := x.io; obtain ⟨l', e'⟩ := y.io
  exact ⟨l ++ l', by rw [e', e, List.append_assoc]⟩
theorem Kp.rd {G G' : Gh} {H H' : Hp} (x : Kp G H G' H') {a : Addr} {u : HO} (f : G.F a) (h : Rd H a u) : Rd H' a u := by
  rcases h with h | ⟨o, h⟩
  · exact .inl (x.keep a _ f h)
  · exact .inr ⟨o, x.keep a _ f h⟩

mutual
theorem Rep.kp {G G' : Gh} {H H' : Hp} (x : Kp G H G' H') : ∀ (d : D) (v : V), Rep K T G H d v → Rep K T G' H' d v
  | .non, v, h => by simpa only [Rep] using h
  | .bl b, v, h => by simpa only [Rep] using h
  | .int i, v, h => by simpa only [Rep] using h
  | .str s, v, h => by simpa only [Rep] using h
  | .tup ds, v, h => by
    simp only [Rep] at h ⊢
    obtain ⟨a, vs, e, h1, h2⟩ := h
    refine ⟨a, vs, e, ?_, RepL.kp x ds vs h2⟩
    rcases h1 with ⟨f, h1⟩ | h1
    · exact .inl ⟨x.fr a f, x.keep a _ f h1⟩
    · exact .inr h1
  | .lst ds, v, h => by
    simp only [Rep] at h ⊢
    obtain ⟨a, vs, e, f, h1, h2⟩ := h
    exact ⟨a, vs, e, x.fr a f, x.keep a _ f h1, RepL.kp x ds vs h2⟩
  | .scr ns, v, h => by
    simp only [Rep] at h ⊢
    obtain ⟨a, e, h⟩ := h
    refine ⟨a, e, ?_⟩
    rcases h with ⟨f, o, h1⟩ | h
    · exact .inl ⟨x.fr a f, o, x.keep a _ f h1⟩
    · exact .inr h
  | .dct ks vs, v, h => by
    simp only [Rep] at h ⊢
    obtain ⟨a, kvs, e, f, h1, h2, h3⟩ := h
    exact ⟨a, kvs, e, x.fr a f, x.keep a _ f h1, h2, RepL.kp x vs _ h3⟩
  | .obj c vs, v, h => by
    simp only [Rep] at h ⊢
    obtain ⟨a, dx, fs, e, f, h1, h2, h3⟩ := h
    exact ⟨a, dx, fs, e, x.fr a f, x.keep a _ f h1, h2, RepL.kp x vs _ h3⟩
  | .loc n, v, h => by
    simp only [Rep] at h ⊢
    obtain ⟨a, e, h⟩ := h
    obtain ⟨l, e'⟩ := x.io
    exact ⟨a, e, by rw [e', List.getElem?_append_left (List.getElem?_eq_some_iff.mp h).1]; exact h⟩
  | .cst u, v, h => by simpa only [Rep] using h
theorem RepL.kp {G G' : Gh} {H H' : Hp} (x : Kp G H G' H') : ∀ (ds : List D) (vs : List V), RepL K T G H ds vs → RepL K T G' H' ds vs
  | [], vs, h => by simpa only [RepL] using h
  | d :: ds, vs, h => by
    simp only [RepL] at h ⊢
    obtain ⟨y, ys, e, h1, h2⟩ := h
    exact ⟨y, ys, e, Rep.kp x d y h1, RepL.kp x ds ys h2⟩
end
theorem RepL.length {G : Gh} {H : Hp} : ∀ {ds : List D} {vs : List V}, RepL K T G H ds vs → vs.length = ds.length
  | [], vs, h => by simp only [RepL] at h; rw [h]; rfl
  | d :: ds, vs, h => by
    simp only [RepL] at h
    obtain ⟨y, ys, e, h1, h2⟩ := h
    rw [e, List.length_cons, List.length_cons, RepL.length h2]
theorem RepL.get {G : Gh} {H : Hp} : ∀ {ds : List D} {vs : List V} {i : Nat} {d : D}, RepL K T G H ds vs → ds[i]? = some d → ∃ v, vs[i]? = some v ∧ Rep K T G H d v
  | [], _, _, _, _, e => by simp at e
  | d :: ds, vs, 0, d', h, e => by
    simp only [RepL] at h
    obtain ⟨y, ys, ev, h1, h2⟩ := h
    simp at e; subst e; subst ev
    exact ⟨y, rfl, h1⟩
  | d :: ds, vs, i + 1, d', h, e => by
    simp only [RepL] at h
    obtain ⟨y, ys, ev, h1, h2⟩ := h
    subst ev
    obtain ⟨v, e1, e2⟩ := RepL.get (i := i) h2 (by simpa using e)
    exact ⟨v, by simpa using e1, e2⟩
theorem RepL.append {G : Gh} {H : Hp} : ∀ {ds es : List D} {vs ws : List V}, RepL K T G H ds vs → RepL K T G H es ws → RepL K T G H (ds ++ es) (vs ++ ws)
  | [], es, vs, ws, h, q => by simp only [RepL] at h; subst h; exact q
  | d :: ds, es, vs, ws, h, q => by
    simp only [RepL] at h
    obtain ⟨y, ys, e, h1, h2⟩ := h
    subst e
    simp only [List.cons_append, RepL]
    exact ⟨y, _, rfl, h1, RepL.append h2 q⟩
theorem RepL.one {G : Gh} {H : Hp} {d : D} {v : V} (h : Rep K T G H d v) : RepL K T G H [d] [v] := by
  simp only [RepL]; exact ⟨v, [], rfl, h, rfl⟩
theorem RepL.nil {G : Gh} {H : Hp} : RepL K T G H [] [] := by simp only [RepL]
theorem RepL.cons {G : Gh} {H : Hp} {d : D} {v : V} {ds : List D} {vs : List V} (h : Rep K T G H d v) (t : RepL K T G H ds vs) : RepL K T G H (d :: ds) (v :: vs) := by
  simp only [RepL]; exact ⟨v, vs, rfl, h, t⟩
theorem RepL.take {G : Gh} {H : Hp} : ∀ {ds : List D} {vs : List V} (n : Nat), RepL K T G H ds vs → RepL K T G H (ds.take n) (vs.take n)
  | _, _, 0, _ => by simp only [List.take_zero]; exact .nil
  | [], vs, n + 1, h => by simp only [RepL] at h; subst h; simp only [List.take_nil]; exact .nil
  | d :: ds, vs, n + 1, h => by
    simp only [RepL] at h
    obtain ⟨y, ys, e, h1, h2⟩ := h
    subst e
    simp only [List.take_succ_cons]
    exact .cons h1 (RepL.take n h2)
theorem RepL.drop {G : Gh} {H : Hp} : ∀ {ds : List D} {vs : List V} (n : Nat), RepL K T G H ds vs → RepL K T G H (ds.drop n) (vs.drop n)
  | _, _, 0, h => by simpa only [List.drop_zero] using h
  | [], vs, n + 1, h => by simp only [RepL] at h; subst h; simp only [List.drop_nil]; exact .nil
  | d :: ds, vs, n + 1, h => by
    simp only [RepL] at h
    obtain ⟨y, ys, e, h1, h2⟩ := h
    subst e
    simp only [List.drop_succ_cons]
    exact RepL.drop n h2
theorem RepL.set {G : Gh} {H : Hp} {d' : D} {v' : V} (r : Rep K T G H d' v') : ∀ {ds : List D} {vs : List V} (n : Nat), RepL K T G H ds vs → RepL K T G H (ds.set n d') (vs.set n v')
  | [], vs, n, h => by simp only [RepL] at h; subst h; simp only [List.set_nil]; exact .nil
  | d :: ds, vs, 0, h => by
    simp only [RepL] at h
    obtain ⟨y, ys, e, h1, h2⟩ := h
    subst e
    simp only [List.set_cons_zero]
    exact .cons r h2
  | d :: ds, vs, n + 1, h => by
    simp only [RepL] at h
    obtain ⟨y, ys, e, h1, h2⟩ := h
    subst e
    simp only [List.set_cons_succ]
    exact .cons h1 (RepL.set r n h2)
theorem RepL.reverse {G : Gh} {H : Hp} : ∀ {ds : List D} {vs : List V}, RepL K T G H ds vs → RepL K T G H ds.reverse vs.reverse
  | [], vs, h => by simp only [RepL] at h; subst h; exact .nil
  | d :: ds, vs, h => by
    simp only [RepL] at h
    obtain ⟨y, ys, e, h1, h2⟩ := h
    subst e
    simp only [List.reverse_cons]
    exact (RepL.reverse h2).append (.one h1)
end L3

/-! The hand layer's judgements once more, with a least number m of tokens that have been given out. -/
namespace L3
open PySem PySem.Spec L2
open PyProof.Rows hiding St
set_option autoImplicit false

theorem thm {α : Type} {c : Sem α} {Y Y' : α → Shared → Prop} {M : Model} {A : Around} {E : Value → Shared → Prop} {z : Shared} {m : Nat} (hm : m ≤ z.toks) (h : wpAny M A c Y E z) (hY : ∀ a z', m ≤ z'.toks → Y a z' → Y' a z') : wpAny M A c Y' E z :=
  wpAny_mono (wpAny_toks_of hm h) (fun a z' x => hY a z' x.1 x.2) fun _ _ x => x.2

section
variable (m : Nat) (X : Cx)
structure QE (e : Expr) (t : TE) : Prop where
  run : ∀ (pins : List (Addr × Obj)) (z : Shared) (σ : St) (H : Hp) (Y : VK), m ≤ z.toks → Inv X pins σ H z → t σ H Y → wpAny (model X.prog X.w) X.A (eval e X.env) (EP X pins σ Y) X.xe z
structure QT (e : Expr) (t : TT) : Prop where
  run : ∀ (pins : List (Addr × Obj)) (z : Shared) (σ : St) (H : Hp) (Y : Bool → Hp → Prop), m ≤ z.toks → Inv X pins σ H z → t σ H Y → wpAny (model X.prog X.w) X.A (isTrue e X.env (eval e X.env)) (TP X pins σ Y) X.xe z
structure QW (e : Expr) (t : TT) : Prop where
  run : ∀ (whole : Sem Value) (pins : List (Addr × Obj)) (z : Shared) (σ : St) (H : Hp) (Y : Bool → Hp → Prop), m ≤ z.toks → Inv X pins σ H z → t σ H Y → wpAny (model X.prog X.w) X.A (isTrue e X.env whole) (TP X pins σ Y) X.xe z
structure QA (es : List Expr) (t : TA) : Prop where
  run : ∀ (pos : Pos) (pins : List (Addr × Obj)) (z : Shared) (σ : St) (H : Hp) (Y : List V → Hp → Prop), m ≤ z.toks → Inv X pins σ H z → t σ H Y → wpAny (model X.prog X.w) X.A (spliced (backTo pos (starEach es X.env))) (AP X pins σ Y) X.xe z
structure QS (st : Stmt) (t : TS) : Prop where
  run : ∀ (pins : List (Addr × Obj)) (z : Shared) (σ : St) (H : Hp) (D : Ends), m ≤ z.toks → Inv X pins σ H z → t D σ H → wpAny (model X.prog X.w) X.A (exec st X.env) (SP X pins D) X.xe z
structure QSs (st : List Stmt) (t : TS) : Prop where
  run : ∀ (pins : List (Addr × Obj)) (z : Shared) (σ : St) (H : Hp) (D : Ends), m ≤ z.toks → Inv X pins σ H z → t D σ H → wpAny (model X.prog X.w) X.A (execs st X.env) (SP X pins D) X.xe z
structure QI (tg iter : Expr) (wi : TI) : Prop where
  run : ∀ (pins : List (Addr × Obj)) (z : Shared) (σ : St) (H : Hp) (R : It → Hp → Prop), m ≤ z.toks → Inv X pins σ H z → wi σ H R →
    wpAny (model X.prog X.w) X.A (eval iter X.env) (fun v z1 => wpAny (model X.prog X.w) X.A (pyIter v) (PIE X pins σ tg R) X.xe z1) X.xe z
structure QO (e : Option Expr) (t : TO) : Prop where
  run : ∀ (pins : List (Addr × Obj)) (z : Shared) (σ : St) (H : Hp) (Y : Option Int → Hp → Prop), m ≤ z.toks → Inv X pins σ H z → t σ H Y →
    wpAny (model X.prog X.w) X.A (evalPart e X.env) (fun u z' => ∃ o H', Inv X pins σ H' z' ∧ IsPart u o ∧ Y o H') X.xe z
end
section
variable {m : Nat} {X : Cx} {a b c e f : Expr} {es rest : List Expr} {ta tb tc te : TE} {pos : Pos}
theorem qe_of (h : PE X e te) : QE m X e te := ⟨fun p z σ H Y _ I q => h.run p z σ H Y I q⟩
theorem qt_of {t : TT} (h : PT X e t) : QT m X e t := ⟨fun p z σ H Y _ I q => h.run p z σ H Y I q⟩
theorem qs_of {st : Stmt} {t : TS} (h : PS X st t) : QS m X st t := ⟨fun p z σ H Y _ I q => h.run p z σ H Y I q⟩
theorem qi_of {tg : Expr} {t : TI} (h : PI X tg e t) : QI m X tg e t := ⟨fun p z σ H Y _ I q => h.run p z σ H Y I q⟩
theorem QE.pe (h : QE 0 X e te) : PE X e te := ⟨fun p z σ H Y I q => h.run p z σ H Y (Nat.zero_le _) I q⟩
theorem QT.pt {t : TT} (h : QT 0 X e t) : PT X e t := ⟨fun p z σ H Y I q => h.run p z σ H Y (Nat.zero_le _) I q⟩
theorem QI.pi {tg : Expr} {t : TI} (h : QI 0 X tg e t) : PI X tg e t := ⟨fun p z σ H Y I q => h.run p z σ H Y (Nat.zero_le _) I q⟩
theorem QE.up {n : Nat} (h : QE m X e te) (hn : m ≤ n) : QE n X e te := ⟨fun p z σ H Y hz I q => h.run p z σ H Y (Nat.le_trans hn hz) I q⟩

theorem qa_nil : QA m X [] tNil := ⟨fun p pins z σ H Y _ I q => pa_nil.run p pins z σ H Y I q⟩
theorem qa_cons {t : TA} (ha : QE m X e te) (hr : QA m X es t) (hs : starEach (e :: es) X.env = (false, eval e X.env) :: starEach es X.env := by rfl) : QA m X (e :: es) (tCons te t) := by
  refine ⟨fun p pins z σ H Y hz I q => ?_⟩
  have go : wpAny (model X.prog X.w) X.A (spliced ((false, eval e X.env) :: backTo p (starEach es X.env))) (AP X pins σ Y) X.xe z :=
    Calls.spliced_cons (thm hz (ha.run pins z σ H _ hz I q) fun u z1 h1 ⟨x, H1, I1, r1, q1⟩ =>
      thm h1 (hr.run p pins z1 σ H1 _ h1 I1 q1) fun us z2 _ ⟨xs, H2, I2, r2, q2⟩ => ⟨x :: xs, H2, I2, .cons r1 r2, q2⟩)
  rw [hs]
  exact go
theorem qe_tup {t : TA} {x1} (h : QA m X es t) : QE m X (.Tuple es x1 pos) (tTup t) := by
  refine ⟨fun pins z σ H Y hz I q => ?_⟩
  refine wpAny_Tuple_spliced (thm hz (h.run pos pins z σ H _ hz I q) fun us z1 _ ⟨xs, H1, I1, r, n, q⟩ => ⟨by rw [← r.length]; exact n, ?_⟩)
  have new : H1 z1.heap.objs.size = none := I1.hok.fresh (Nat.le_refl _)
  refine ⟨.ref z1.heap.objs.size, _, I1.laid (a := z1.heap.objs.size) (o := .tup xs) (t' := z1.toks) (fun b u w => Heap.get?_push_of_some _ w) (Nat.le_refl _) ?_, rfl, q _ new⟩
  exact ⟨n, us, r, _, Heap.get?_push_size _ rfl, rfl, _, rfl⟩
theorem qe_lst {t : TA} (h : QA m X es t) : QE m X (.List es pos) (tLst t) := by
  refine ⟨fun pins z σ H Y hz I q => ?_⟩
  refine wpAny_List_spliced (thm hz (h.run pos pins z σ H _ hz I q) fun us z1 _ ⟨xs, H1, I1, r, n, q⟩ => ⟨by rw [← r.length]; exact n, ?_⟩)
  have new : H1 z1.heap.objs.size = none := I1.hok.fresh (Nat.le_refl _)
  refine ⟨.ref z1.heap.objs.size, _, I1.laid (a := z1.heap.objs.size) (o := .lst xs) (t' := z1.toks) (fun b u w => Heap.get?_push_of_some _ w) (Nat.le_refl _) ?_, rfl, q _ new⟩
  exact ⟨n, us, 0, r, Heap.get?_push_size _ rfl⟩
theorem two (ha : QE m X a ta) (hb : QE m X b tb) {pins : List (Addr × Obj)} {z : Shared} {σ : St} {H : Hp} {R : V → V → Hp → Prop} (hz : m ≤ z.toks) (I : Inv X pins σ H z) (h : ta σ H fun x H1 => tb σ H1 fun y H2 => R x y H2)
    {α : Type} {Y : α → Shared → Prop} {g : Value → Value → Sem α} (hg : ∀ v u z2 x y H2, m ≤ z2.toks → Inv X pins σ H2 z2 → RelV x v → RelV y u → R x y H2 → wpAny (model X.prog X.w) X.A (g v u) Y X.xe z2) :
    wpAny (model X.prog X.w) X.A (eval a X.env) (fun v z1 => wpAny (model X.prog X.w) X.A (eval b X.env) (fun u z2 => wpAny (model X.prog X.w) X.A (g v u) Y X.xe z2) X.xe z1) X.xe z :=
  thm hz (ha.run pins z σ H _ hz I h) fun v z1 h1 ⟨x, H1, I1, r1, q1⟩ => thm h1 (hb.run pins z1 σ H1 _ h1 I1 q1) fun u z2 h2 ⟨y, H2, I2, r2, q2⟩ => hg v u z2 x y H2 h2 I2 r1 r2 q2
theorem qe_op {op : Operator} {r : R2} (ho : OpR X (binaryOp op) r) (ha : QE m X a ta) (hb : QE m X b tb) : QE m X (.BinOp a op b pos) (tOp r ta tb) :=
  ⟨fun pins z σ H Y hz I q => wpAny_BinOp (two ha hb hz I q fun v u z2 x y H2 _ I2 rx ry q2 => ho pins z2 σ H2 x y v u Y I2 rx ry q2)⟩
theorem qe_un {op : UnaryOp} {r : V → Hp → VK → Prop} (ho : UnR X (unaryOp op) r) (ha : QE m X a ta) : QE m X (.UnaryOp op a pos) (tUn r ta) :=
  ⟨fun pins z σ H Y hz I q => UnaryOp_ (thm hz (ha.run pins z σ H _ hz I q) fun v z1 _ ⟨x, H1, I1, r1, q1⟩ => ho pins z1 σ H1 x v Y I1 r1 q1)⟩
theorem qe_cmpR {op : CmpOp} {r : R2} (ho : OpR X (compareOp op) r) (ha : QE m X a ta) (hb : QE m X b tb) (hm : behindInMarks op b = false) : QE m X (.Compare a [op] [b] pos) (tOp r ta tb) :=
  ⟨fun pins z σ H Y hz I q => wpAny_Compare1 (two ha hb hz I q fun v u z2 x y H2 _ I2 rx ry q2 => ho pins z2 σ H2 x y v u Y I2 rx ry q2) hm⟩
theorem qt_cmpR {op : CmpOp} {r : R2} (ho : OpR X (compareOp op) r) (ha : QE m X a ta) (hb : QE m X b tb) (hm : behindInMarks op b = false) : QT m X (.Compare a [op] [b] pos) (tTest (tOp r ta tb)) := by
  refine ⟨fun pins z σ H Y hz I q => wpAny_isTrue_Compare1 (two (R := fun x y H2 => r x y H2 fun w H3 => ∃ k, w = .bl k ∧ Y k H3) ha hb hz I q fun v u z2 x y H2 _ I2 rx ry q2 => thn (ho pins z2 σ H2 x y v u _ I2 rx ry q2) fun d z3 ⟨w, H3, I3, r3, k, ew, q3⟩ => ?_) hm⟩
  subst ew
  cases r3
  exact wpAny_truthy_bool ⟨H3, I3, q3⟩
theorem qt_val {t : TE} (h : QE m X e t) (he : ∀ whole, isTrue e X.env whole = (do let v ← whole; standAt e.pos; holding [v] (truthy v)) := by intro _; rfl) : QT m X e (L2.tB t) := by
  refine ⟨fun pins z σ H Y hz I q => isTrue_plain (thm hz (h.run pins z σ H _ hz I q) fun v z1 _ ⟨x, H1, I1, r1, d, ex, q1⟩ => ?_) (he _)⟩
  subst ex
  cases r1
  exact wpAny_truthy_bool ⟨H1, I1, q1⟩
theorem qt_truth (ha : QE m X a ta) (he : ∀ whole, isTrue a X.env whole = (do let v ← whole; standAt a.pos; holding [v] (truthy v))) : QT m X a (fun σ H Y => ta σ H fun x H' => ∃ k, TruV X.K x H' k ∧ Y k H') :=
  ⟨fun pins z σ H Y hz I q => isTrue_plain (thm hz (ha.run pins z σ H _ hz I q) fun v z1 _ ⟨x, H1, I1, r1, q1⟩ => tru_ok pins z1 σ H1 x v Y I1 r1 q1) (he _)⟩
theorem QW.qt {t : TT} (h : QW m X e t) : QT m X e t := ⟨h.run _⟩
theorem qw_and1 {t : TT} (ha : QT m X a t) : QW m X (.BoolOp .And [a] pos) t := by
  refine ⟨fun wh pins z σ H Y hz I q => isTrue_and (thn (ha.run pins z σ H Y hz I q) fun d z1 q1 => ?_)⟩
  cases d with
  | false => exact q1
  | true => exact isTrue_and_nil q1
theorem qw_or1 {t : TT} (ha : QT m X a t) : QW m X (.BoolOp .Or [a] pos) t := by
  refine ⟨fun wh pins z σ H Y hz I q => isTrue_or (thn (ha.run pins z σ H Y hz I q) fun d z1 q1 => ?_)⟩
  cases d with
  | true => exact q1
  | false => exact isTrue_or_nil q1
theorem qw_and {t u : TT} (ha : QT m X a t) (hb : QW m X (.BoolOp .And (b :: rest) pos) u) : QW m X (.BoolOp .And (a :: b :: rest) pos) (tAnd t u) := by
  refine ⟨fun wh pins z σ H Y hz I q => isTrue_and (thm hz (ha.run pins z σ H _ hz I q) fun d z1 h1 ⟨H1, I1, q1⟩ => ?_)⟩
  cases d with
  | false => exact ⟨H1, I1, q1⟩
  | true => exact hb.run wh pins z1 σ H1 Y h1 I1 q1
theorem qw_or {t u : TT} (ha : QT m X a t) (hb : QW m X (.BoolOp .Or (b :: rest) pos) u) : QW m X (.BoolOp .Or (a :: b :: rest) pos) (tOr t u) := by
  refine ⟨fun wh pins z σ H Y hz I q => isTrue_or (thm hz (ha.run pins z σ H _ hz I q) fun d z1 h1 ⟨H1, I1, q1⟩ => ?_)⟩
  cases d with
  | true => exact ⟨H1, I1, q1⟩
  | false => exact hb.run wh pins z1 σ H1 Y h1 I1 q1
theorem qt_not {t : TT} (ha : QT m X a t) : QT m X (.UnaryOp .Not a pos) (tNot t) := ⟨fun pins z σ H Y hz I q => isTrue_not (ha.run pins z σ H (fun d H1 => Y (!d) H1) hz I q)⟩
theorem qe_one {op} {t : TE} (h : QE m X a t) : QE m X (.BoolOp op [a] pos) t := ⟨fun pins z σ H Y hz I q => BoolOp_one (h.run pins z σ H Y hz I q)⟩
theorem qe_and (ha : QE m X a ta) (hb : QE m X (.BoolOp .And (b :: rest) pos) tb) : QE m X (.BoolOp .And (a :: b :: rest) pos) (tAndV ta tb) := by
  refine ⟨fun pins z σ H Y hz I q => BoolOp_and (thm hz (ha.run pins z σ H _ hz I q) fun v z1 h1 ⟨x, H1, I1, r1, d, ex, q1⟩ => ?_)⟩
  subst ex
  cases r1
  refine wpAny_truthy_bool ?_
  cases d with
  | false => exact ⟨.bl false, H1, I1, rfl, q1⟩
  | true => exact hb.run pins z1 σ H1 Y h1 I1 q1
theorem qe_or (ha : QE m X a ta) (hb : QE m X (.BoolOp .Or (b :: rest) pos) tb) : QE m X (.BoolOp .Or (a :: b :: rest) pos) (tOrV ta tb) := by
  refine ⟨fun pins z σ H Y hz I q => BoolOp_or (thm hz (ha.run pins z σ H _ hz I q) fun v z1 h1 ⟨x, H1, I1, r1, d, ex, q1⟩ => ?_)⟩
  subst ex
  cases r1
  refine wpAny_truthy_bool ?_
  cases d with
  | true => exact ⟨.bl true, H1, I1, rfl, q1⟩
  | false => exact hb.run pins z1 σ H1 Y h1 I1 q1
theorem qe_not (ha : QE m X a ta) : QE m X (.UnaryOp .Not a pos) (tNotV ta) := by
  refine ⟨fun pins z σ H Y hz I q => UnaryOp_ (thm hz (ha.run pins z σ H _ hz I q) fun v z1 h1 ⟨x, H1, I1, r1, d, ex, q1⟩ => ?_)⟩
  subst ex
  cases r1
  exact not_of (wpAny_truthy_bool ⟨.bl (!d), H1, I1, rfl, q1⟩)
theorem qe_ifExp {t : TT} (hc : QT m X c t) (ha : QE m X a ta) (hb : QE m X b tb) : QE m X (.IfExp c a b pos) (tIf t ta tb) := by
  refine ⟨fun pins z σ H Y hz I q => wpAny_IfExp (thm hz (hc.run pins z σ H _ hz I q) fun d z1 h1 ⟨H1, I1, q1⟩ => ?_)⟩
  cases d with
  | false => exact hb.run pins z1 σ H1 Y h1 I1 q1
  | true => exact ha.run pins z1 σ H1 Y h1 I1 q1
theorem qe_chain {op op' : CmpOp} {r r' : R2} (ho : OpR X (compareOp op) r) (ho' : OpR X (compareOp op') r') (ha : QE m X a ta) (hb : QE m X b tb) (hc : QE m X c tc) (hm : lastMarks [op, op'] [b, c] = false := by with_unfolding_all rfl) :
    QE m X (.Compare a [op, op'] [b, c] pos) (tChain r r' ta tb tc) := by
  refine ⟨fun pins z σ H Y hz I q => Compare_chain (thm hz (ha.run pins z σ H _ hz I q) fun v z1 h1 ⟨x, H1, I1, r1, q1⟩ => chain_link (thm h1 (hb.run pins z1 σ H1 _ h1 I1 q1) fun u z2 h2 ⟨y, H2, I2, r2, q2⟩ =>
    thm h2 (ho pins z2 σ H2 x y v u _ I2 r1 r2 q2) fun d z3 h3 ⟨w, H3, I3, r3, k, ew, q3⟩ => ?_)) hm⟩
  subst ew
  cases r3
  cases k with
  | true => exact wpAny_truthy_bool (ite_tt (chain_last (thm h3 (hc.run pins z3 σ H3 _ h3 I3 q3) fun w z4 _ ⟨y', H4, I4, r4, q4⟩ => ho' pins z4 σ H4 y y' u w Y I4 r2 r4 q4)))
  | false => exact wpAny_truthy_bool (ite_ff ⟨.bl false, H3, I3, rfl, q3⟩)
theorem qt_chain {op op' : CmpOp} {r r' : R2} (ho : OpR X (compareOp op) r) (ho' : OpR X (compareOp op') r') (ha : QE m X a ta) (hb : QE m X b tb) (hc : QE m X c tc) (hm : lastMarks [op, op'] [b, c] = false := by with_unfolding_all rfl) :
    QT m X (.Compare a [op, op'] [b, c] pos) (tTest (tChain r r' ta tb tc)) := by
  refine ⟨fun pins z σ H Y hz I q => isTrue_chain (thm hz (ha.run pins z σ H _ hz I q) fun v z1 h1 ⟨x, H1, I1, r1, q1⟩ => test_link (thm h1 (hb.run pins z1 σ H1 _ h1 I1 q1) fun u z2 h2 ⟨y, H2, I2, r2, q2⟩ =>
    thm h2 (ho pins z2 σ H2 x y v u _ I2 r1 r2 q2) fun d z3 h3 ⟨w, H3, I3, r3, k, ew, q3⟩ => ?_)) hm⟩
  subst ew
  cases r3
  cases k with
  | true =>
    refine wpAny_truthy_bool (ite_tt (test_last (thm h3 (hc.run pins z3 σ H3 _ h3 I3 q3) fun w z4 h4 ⟨y', H4, I4, r4, q4⟩ => thm h4 (ho' pins z4 σ H4 y y' u w _ I4 r2 r4 q4) fun d' z5 _ ⟨w', H5, I5, r5, k', e5, q5⟩ => ?_)))
    subst e5
    cases r5
    exact wpAny_truthy_bool ⟨H5, I5, q5⟩
  | false =>
    obtain ⟨k', e', q'⟩ := q3
    cases e'
    exact wpAny_truthy_bool (ite_ff ⟨H3, I3, q'⟩)
theorem qe_ix {r : R2} (hr : IxR X r) (ha : QE m X a ta) (hb : QE m X b tb) (hs : PlainIx b) : QE m X (.Subscript a b pos) (tOp r ta tb) :=
  ⟨fun pins z σ H Y hz I q => Subscript_ (two ha hb hz I q fun v u z2 x y H2 _ I2 rx ry q2 => hr a b pins z2 σ H2 x y v u Y I2 rx ry q2 (hs _ _))⟩
theorem qo_none : QO m X none tNoPart := ⟨fun pins z σ H Y _ I q => po_none.run pins z σ H Y I q⟩
theorem qo_some (h : QE m X e te) : QO m X (some e) (tPart te) := by
  refine ⟨fun pins z σ H Y hz I q => ?_⟩
  rw [evalPart_some]
  exact thn (h.run pins z σ H _ hz I q) fun u z1 ⟨x, H1, I1, r1, i, ex, q1⟩ => by
    subst ex
    obtain ⟨t, eu⟩ := r1
    subst eu
    exact ⟨some i, H1, I1, .int i t, q1⟩
theorem qe_slice {lo hi : Option Expr} {p2 : Pos} {r : V → Option Int → Option Int → Hp → VK → Prop} {tl th : TO} (hr : SlR X r) (he : QE m X e te) (hl : QO m X lo tl) (hu : QO m X hi th) : QE m X (.Subscript e (.Slice lo hi none p2) pos) (tSl r te tl th) := by
  refine ⟨fun pins z σ H Y hz I q => Subscript_ (thm hz (he.run pins z σ H _ hz I q) fun v z1 h1 ⟨x, H1, I1, r1, q1⟩ => wpAny_Slice (thm h1 (hl.run pins z1 σ H1 _ h1 I1 q1) fun vl z2 h2 ⟨l, H2, I2, pl, q2⟩ =>
    thm h2 (hu.run pins z2 σ H2 _ h2 I2 q2) fun vu z3 _ ⟨u, H3, I3, pu, q3⟩ => ?_))⟩
  rw [evalPart_none]
  refine wpAny_pure ?_
  have I4 := I3.kept (h' := z3.heap.push { cls := .type "slice", data := .fields #[vl, vu, .none] }) (t' := z3.toks) fun b ob w => Heap.get?_push_of_some _ w
  obtain ⟨T, id, hT, ht, hg⟩ := hr pins _ σ H3 x v vl vu l u z3.heap.objs.size Y I4 r1 (Heap.IsSliceOf.new ..) pl pu q3
  exact tail_any (ops := [.ref z3.heap.objs.size, v]) ht hT hg (by with_unfolding_all rfl)
end

/-! ### defs -/
/-- room for k calls, and no object's text under way -/
structure RoomG (k : Nat) (A : Around) : Prop extends Room k A where
  gd : A.guards = some []
theorem RoomG.mono {j k : Nat} {A : Around} (r : RoomG k A) (h : j ≤ k) : RoomG j A := ⟨r.toRoom.mono h, r.gd⟩
theorem RoomG.deeper {k : Nat} {A : Around} (r : RoomG (k + 1) A) (env : PySem.Env) : RoomG k (A.deeper env) := ⟨r.toRoom.deeper env, r.gd⟩
theorem RoomG.in1 {k : Nat} {A : Around} (r : RoomG (k + 1) A) : RoomG k A.in1 := ⟨r.toRoom.in1, r.gd⟩
theorem make_guards {A : Around} {C : Addr} {us : List Value} {kw : List (Str × Value)} : (A.under (.builtin "type.__call__" ⟨.ref C :: us, kw⟩)).guards = A.guards := by
  first | rfl | simp [Around.under, Code.guards, Code.isGuard, guardIds, pushGuards]
theorem RoomG.make {k : Nat} {A : Around} (r : RoomG (k + 1) A) (C : Addr) (us : List Value) (kw : List (Str × Value)) : RoomG k (A.under (.builtin "type.__call__" ⟨.ref C :: us, kw⟩)) := ⟨r.toRoom.make C us kw, by rw [make_guards]; exact r.gd⟩
structure FnM (m : Nat) (P : Program) (w : World) (K : PySem.W.Frag) (mg : Str → Option Value) (base : Heap) (CX : CXT) (k : Nat) (f : Addr) (fd : FuncData) (ps : List Str) (sp : Sp) : Prop where
  len : ∀ vs H Y E, sp vs H Y E → vs.length = ps.length
  run : ∀ (A : Around) (outer : List PySem.Env) (z : Shared) (H : Hp) (args : Args) (us : List Value) (vs : List V) (Y : VK) (E : XK), m ≤ z.toks → RoomG k A → Env0 P w K mg base A outer z H → BindsTo z fd args (ps.zip us) → Vals vs us → sp vs H Y E →
    codeAny (model P w) A (.call (.ref f) args) (CR CX outer P w H z Y E) z
theorem FnM.mono {m : Nat} {P : Program} {w : World} {K : PySem.W.Frag} {mg : Str → Option Value} {base : Heap} {CX : CXT} {j k : Nat} {f : Addr} {fd : FuncData} {ps : List Str} {sp : Sp} (F : FnM m P w K mg base CX j f fd ps sp) (h : j ≤ k) : FnM m P w K mg base CX k f fd ps sp :=
  ⟨F.len, fun A outer z H args us vs Y E hz hr => F.run A outer z H args us vs Y E hz (hr.mono h)⟩
theorem FnM.up {m n : Nat} {P : Program} {w : World} {K : PySem.W.Frag} {mg : Str → Option Value} {base : Heap} {CX : CXT} {k : Nat} {f : Addr} {fd : FuncData} {ps : List Str} {sp : Sp} (F : FnM m P w K mg base CX k f fd ps sp) (h : m ≤ n) : FnM n P w K mg base CX k f fd ps sp :=
  ⟨F.len, fun A outer z H args us vs Y E hz => F.run A outer z H args us vs Y E (Nat.le_trans h hz)⟩
section
variable {m : Nat} {X : Cx} {k : Nat} {f : Addr} {fd : FuncData} {ps : List Str} {sp : Sp} {E : St → XK} {x : Str} {p pos : Pos} {e : Expr} {es : List Expr} {t : TA}
theorem run_m {pins : List (Addr × Obj)} {σ : St} {H : Hp} {z : Shared} {Y : VK} {us : List Value} {args : Args} {vs : List V} (F : FnM m X.prog X.w X.K X.mg X.base (L2.CX X.prog X.w) k f fd ps sp) (hz : m ≤ z.toks) (hr : RoomG k X.A) (hb : BindsTo z fd args (ps.zip us)) (hx : PassesAt (L2.CX X.prog X.w) X σ (E σ))
    (I : Inv X pins σ H z) (r : Vals vs us) (h : sp vs H Y (E σ)) : codeAny (model X.prog X.w) X.A (.call (.ref f) args) (fun r z' => match r with | .ok (.ret u) => EP X pins σ Y u z' | .ok _ => False | .error e => X.xe e z') z := by
  refine codeAny_mono (F.run X.A X.stack z H args us vs Y (E σ) hz hr I.env0 hb r h) fun r z' hq => ?_
  cases r with
  | error e => exact hx pins H z e z' I hq
  | ok fl =>
    cases fl with
    | ret u => exact I.after hq
    | next => exact hq.elim
    | brk => exact hq.elim
    | cont => exact hq.elim
theorem run_call {pins : List (Addr × Obj)} {σ : St} {H : Hp} {z : Shared} {Y : VK} {us : List Value} {vs : List V} (F : FnM m X.prog X.w X.K X.mg X.base (L2.CX X.prog X.w) k f fd ps sp) (hz : m ≤ z.toks) (hr : RoomG k X.A) (hb : Binds X.K fd ps []) (hx : PassesAt (L2.CX X.prog X.w) X σ (E σ))
    (I : Inv X pins σ H z) (r : Vals vs us) (h : sp vs H Y (E σ)) : wpAny (model X.prog X.w) X.A (call (.ref f) us) (EP X pins σ Y) X.xe z := by
  have hl : us.length = ps.length := by rw [← r.length]; exact F.len _ _ _ _ h
  have b := hb z us I.kIn (by rw [List.append_nil]; exact hl)
  rw [List.append_nil] at b
  refine wpAny_call (codeAny_mono (run_m F hz hr b hx I r h) fun r z' hq => ?_)
  cases r with
  | error e => exact hq
  | ok fl => cases fl <;> exact hq
theorem qe_call (F : FnM m X.prog X.w X.K X.mg X.base (L2.CX X.prog X.w) k f fd ps sp) (hr : RoomG k X.A) (hg : Gl X x) (hm : X.mg x = some (.ref f)) (hk : PySem.W.keepIn X.K (.ref f) = true) (hb : Binds X.K fd ps []) (hx : ∀ σ, PassesAt (L2.CX X.prog X.w) X σ (E σ)) (ha : QA m X (e :: es) t)
    (hdb : (x == ("__debug__" : Str)) = false := by decide) (he : starEach (e :: es) X.env = (false, eval e X.env) :: starEach es X.env := by rfl) (hpl : (backTo pos (starEach es X.env)).any (·.1) = false := by rfl) :
    QE m X (.Call (.Name x p) (e :: es) [] pos) (tCallS sp E t) :=
  ⟨fun pins z σ H Y hz I q => wpAny_Call_Name_kw (ld_glob I hg hm (PySem.W.callWith_K (h₀ := X.base) I.ok.mod.kin hk (thm hz (ha.run pos pins z σ H _ hz I q) fun us z1 h1 ⟨vs, H1, I1, r, q1⟩ => ⟨I1.kIn, run_call F h1 hr hb (hx σ) I1 r q1⟩) he hpl) hdb)⟩
theorem qe_call0 (F : FnM m X.prog X.w X.K X.mg X.base (L2.CX X.prog X.w) k f fd ps sp) (hr : RoomG k X.A) (hg : Gl X x) (hm : X.mg x = some (.ref f)) (hk : PySem.W.keepIn X.K (.ref f) = true) (hb : Binds X.K fd ps []) (hx : ∀ σ, PassesAt (L2.CX X.prog X.w) X σ (E σ))
    (hdb : (x == ("__debug__" : Str)) = false := by decide) : QE m X (.Call (.Name x p) [] [] pos) (tCallS sp E tNil) :=
  ⟨fun pins z σ H Y hz I q => wpAny_Call_Name_kw (ld_glob I hg hm (PySem.W.callWith_K0 I.kIn hk (run_call (us := []) F hz hr hb (hx σ) I .nil q)) hdb)⟩
end

/-! ### statements -/
section
variable {m : Nat} {X : Cx} {st : Stmt} {rest body : List Stmt} {t u : TS} {e c : Expr} {te : TE} {pos : Pos}
theorem qss_nil : QSs m X [] tNext := ⟨fun pins z σ H D _ I q => pss_nil.run pins z σ H D I q⟩
theorem qss_cons (h1 : QS m X st t) (h2 : QSs m X rest u) : QSs m X (st :: rest) (tSeq t u) := by
  refine ⟨fun pins z σ H D hz I q => wpAny_execs_cons (thm hz (h1.run pins z σ H { D with nx := u D } hz I q) fun f z1 hk q1 => ?_)⟩
  cases f with
  | next => obtain ⟨σ', H', I', q2⟩ := q1; exact h2.run pins z1 σ' H' D hk I' q2
  | ret v => exact q1
  | brk => exact q1
  | cont => exact q1
theorem qss_one (h1 : QS m X st t) : QSs m X [st] t := by
  refine ⟨fun pins z σ H D hz I q => wpAny_execs_cons (thn (h1.run pins z σ H D hz I q) fun f z1 q1 => ?_)⟩
  cases f with
  | next => exact wpAny_execs_nil q1
  | ret v => exact q1
  | brk => exact q1
  | cont => exact q1
theorem qs_expr (he : QE m X e te) (hs : swapsWith e none pos.line X.env = pure false := by rfl) : QS m X (.Expr e pos) (tDrop te) :=
  ⟨fun pins z σ H D hz I q => wpAny_Expr_any (thn (he.run pins z σ H _ hz I q) fun v z1 ⟨x, H1, I1, r1, q1⟩ => ⟨σ, H1, I1, q1⟩) I.quiet hs⟩
theorem qs_ret (he : QE m X e te) : QS m X (.Return (some e) pos) (tRet te) :=
  ⟨fun pins z σ H D hz I q => wpAny_Return_some (thn (he.run pins z σ H _ hz I q) fun v z1 ⟨x, H1, I1, r1, q1⟩ => ⟨x, σ, H1, I1, r1, q1⟩)⟩
theorem qs_if {a b : List Stmt} {tc : TT} (hc : QT m X c tc) (ha : QSs m X a t) (hb : QSs m X b u) : QS m X (.If c a b pos) (tIfS tc t u) := by
  refine ⟨fun pins z σ H D hz I q => wpAny_If (thm hz (hc.run pins z σ H _ hz I q) fun d z1 h1 ⟨H1, I1, q1⟩ => ?_)⟩
  cases d with
  | false => exact hb.run pins z1 σ H1 D h1 I1 q1
  | true => exact ha.run pins z1 σ H1 D h1 I1 q1
theorem qs_set {i : Nat} {x : Str} {p' : Pos} (hN : X.N.Nodup) (hi : X.N[i]? = some x) (hx : Loc X.env.scope x) (he : QE m X e te) (hs : swapsWith e (some (.Name x p')) pos.line X.env = pure false := by rfl) (hf : X.fn x = true ∨ X.env.scope.names.lookup x = some .local := by first | exact .inl rfl | exact .inr rfl | assumption) :
    QS m X (.Assign [.Name x p'] e pos) (tAsg te (gName i)) :=
  ⟨fun pins z σ H D hz I q => wpAny_Assign_Name (thn (he.run pins z σ H _ hz I q) fun v z1 ⟨y, H1, I1, r1, q1⟩ => store_ok I1 hN hi hx r1 (fun z2 I2 => ⟨_, H1, I2, q1⟩) hf) hs⟩
theorem qs_asg {tg : Expr} {g : TG} (he : QE m X e te) (hg : PG X tg g) (hs : swapsWithSole [tg] e pos.line X.env = pure false := by rfl) (hw : swappedStores [tg] e X.env = pure none := by rfl) (h1 : (assignEach [tg] X.env).map (·.2) = [assign tg X.env] := by rfl) :
    QS m X (.Assign [tg] e pos) (tAsg te g) := by
  refine ⟨fun pins z σ H D hz I q => wpAny_Assign_stores (thn (he.run pins z σ H _ hz I q) fun v z1 ⟨x, H1, I1, r1, q1⟩ => ?_) hs hw⟩
  rw [h1]
  exact hg.run pins z1 σ H1 x v _ I1 r1 q1
theorem qs_while {tc : TT} {tb : TS} (hp : PassesOwn (model X.prog X.w) X.A X.env X.xe) (hc : QT m X c tc) (hb : QSs m X body tb) : QS m X (.While c body [] pos) (tWhile tc tb) := by
  refine ⟨fun pins z σ H D hz I ⟨W, ⟨n, w⟩, turn⟩ => wpAny_While (codeAny_whileLoop (fun n z' => m ≤ z'.toks ∧ ∃ σ' H', Inv X pins σ' H' z' ∧ W n σ' H') (fun n z1 ⟨h1, σ1, H1, I1, w1⟩ => ?_) n ⟨hz, σ, H, I, w⟩)⟩
  refine wpAny_passesOwn hp (thm h1 (hc.run pins z1 σ1 H1 _ h1 I1 (turn n σ1 H1 w1)) fun b z2 h2 ⟨H2, I2, q2⟩ => ?_)
  cases b with
  | false => rw [if_neg (by decide)]; exact wpAny_execs_nil ⟨σ1, H2, I2, q2⟩
  | true =>
    obtain ⟨N, hN, q3⟩ := q2
    rw [if_pos rfl]
    refine wpAny_passesOwn hp (thm h2 (hb.run pins z2 σ1 H2 _ h2 I2 q3) fun fl z3 h3 q4 => ?_)
    have go : (∃ σ' H', Inv X pins σ' H' z3 ∧ N σ' H') → ∃ n', n' < n ∧ m ≤ z3.toks ∧ ∃ σ' H', Inv X pins σ' H' z3 ∧ W n' σ' H' := fun ⟨σ3, H3, I3, n3⟩ => by
      obtain ⟨n', lt, w3⟩ := hN σ3 H3 n3
      exact ⟨n', lt, h3, σ3, H3, I3, w3⟩
    cases fl with
    | next => exact go q4
    | cont => exact go q4
    | brk => exact q4
    | ret v => exact q4
theorem qs_for {tg iter : Expr} {wi : TI} {g : TG} {tb : TS} (hp : PassesOwn (model X.prog X.w) X.A X.env X.xe) (hc : X.calm = true) (hi : QI m X tg iter wi) (hg : PG X tg g) (hb : QSs m X body tb) (hs : ∀ x, foldedSetIterable iter X.env x = pure x := by intro _; rfl) :
    QS m X (.For tg iter body [] pos) (tFor wi g tb) := by
  refine ⟨fun pins z σ H D hz I q => wpAny_For (thm hz (hi.run pins z σ H _ hz I q) fun v z1 h1 q1 => thm h1 q1 fun itv z2 h2 q2 => ?_) hs⟩
  obtain ⟨it, fp, tn, J, H2, ei, I2, T, t0, ok, W, ⟨n0, w0⟩, turn⟩ := q2
  subst ei
  have okf : ∀ {H' : Hp}, (∀ b ∈ fp, H' b = none) → ∀ b ∈ fp, FpOk X pins H' b := fun hn b hb => ⟨hn b hb, (ok b hb).2⟩
  refine codeAny_forLoop_any (fun n z' => m ≤ z'.toks ∧ ∃ i σ' H', Inv X pins σ' H' z' ∧ tn i z'.heap ∧ (∀ b ∈ fp, H' b = none) ∧ W i n σ' H') (fun n z3 ⟨h3, i, σ3, H3, I3, t3, fr3, w3⟩ => ?_) n0 ⟨h2, 0, σ, H2, I2, t0, fun b hb => (ok b hb).1, w0⟩
  rcases turn i n σ3 H3 w3 with ⟨stop, qn⟩ | ⟨go, N, hN, step⟩
  · refine wpAny_passesOwn hp (thn (T.done X rfl rfl rfl hc i pins z3 σ3 H3 X.xe I3 (okf fr3) t3 stop) fun r z4 ⟨er, I4⟩ => ?_)
    subst er
    exact wpAny_execs_nil ⟨σ3, H3, I4, qn⟩
  · refine wpAny_passesOwn hp (thm h3 (T.item X rfl rfl rfl hc i pins z3 σ3 H3 X.xe I3 (okf fr3) t3 go) fun r z4 h4 ⟨u, er, q4⟩ => ?_)
    subst er
    refine wpAny_passesOwn hp (thm h4 q4 fun _ z5 h5 ⟨x, H5, I5, r5, y5, t5, fr5⟩ => ?_)
    have P5 := I5.pinned (okf fr5) (T.obj _ _ t5)
    refine wpAny_passesOwn hp (thm h5 (hg.run _ z5 σ3 H5 x u _ P5 r5 (step x H5 y5)) fun _ z6 h6 ⟨σ6, H6, I6, q6⟩ => ?_)
    refine wpAny_passesOwn hp (thm h6 (hb.run _ z6 σ6 H6 _ h6 I6 q6) fun fl z7 h7 q7 => ?_)
    have more : (∃ σ' H', Inv X (pins ++ pinsAt fp z5.heap) σ' H' z7 ∧ N σ' H') → ∃ n', n' < n ∧ m ≤ z7.toks ∧ ∃ i σ' H', Inv X pins σ' H' z7 ∧ tn i z7.heap ∧ (∀ b ∈ fp, H' b = none) ∧ W i n' σ' H' := fun ⟨σ7, H7, I7, n7⟩ => by
      obtain ⟨n', lt, w7⟩ := hN σ7 H7 n7
      have at7 : ∀ b ∈ fp, ∀ o, z5.heap.get? b = some o → z7.heap.get? b = some o ∧ H7 b = none := fun b hb o eo => by
        have q := I7.pin (b, o) (List.mem_append_right _ (List.mem_append_right _ (mem_pinsAt hb eo)))
        exact ⟨q.1, q.2.1⟩
      refine ⟨n', lt, h7, i + 1, σ7, H7, I7.unpinned, T.keep _ _ _ t5 fun b hb o eo => (at7 b hb o eo).1, fun b hb => ?_, w7⟩
      obtain ⟨o, eo, _⟩ := T.obj _ _ t5 b hb
      exact (at7 b hb o eo).2
    cases fl with
    | next => exact more q7
    | cont => exact more q7
    | brk => obtain ⟨σ7, H7, I7, q8⟩ := q7; exact ⟨σ7, H7, I7.unpinned, q8⟩
    | ret v => obtain ⟨x7, σ7, H7, I7, r7, q8⟩ := q7; exact ⟨x7, σ7, H7, I7.unpinned, r7, q8⟩
end

/-! ### a def's body -/
theorem fn_m {m : Nat} {P : Program} {w : World} {K : PySem.W.Frag} {mg : Str → Option Value} {base : Heap} {x qual : Str} {st : Stmt} {f : Addr} {fd : FuncData} {N ps : List Str} {k : Nat} {sp : Sp} (F : Fun K x qual st f fd) (S : FnScope N ps (defScope st)) (len : ∀ vs H Y E, sp vs H Y E → vs.length = ps.length)
    (hbody : ∀ (cdv : Value) (A : Around) (outer : List PySem.Env) (z : Shared) (H : Hp) (vs : List V) (Y : VK) (E : XK), RoomG k (A.deeper (envOfC qual (defScope st) z.heap.objs.size f cdv)) → sp vs H Y E →
      ∃ t, QSs m (cxOf (L2.CX P w) P w K mg base N qual (defScope st) f cdv A outer z H E) (defBody st) t ∧ t { nx := fun _ H' => Y .non H', rt := Y } (L2.start N vs) H) : FnM m P w K mg base (L2.CX P w) (k + 1) f fd ps sp := by
  obtain ⟨oc, od, kV, doc, pm, an, cdv, ct, osl, rfl, lk, hcd⟩ := F.ex
  refine ⟨len, fun A outer z H args us vs Y E hz hr e0 hb r hsp => ?_⟩
  have low : ∀ b o, base.get? b = some o → z.heap.get? b = some o := fun b o e => (e0.bs b o e).1
  have KX := e0.mod.kin.keeps low
  have lim := e0.mod.nolimit.keeps low
  have kinds : ∀ y ∈ ps.zip us, (defScope st).names.lookup y.1 = some .local ∨ ((defScope st).names.lookup y.1 = some .cell ∧ ((cellsFrom (z.heap.objs.size + 1) (defScope st).names []).lookup y.1).isSome = true) := fun y hy => by
    obtain ⟨y1, y2⟩ := y
    exact (S.par y1 (List.of_mem_zip hy).1).elim .inl fun q => .inr ⟨q, PySem.W.cellsFrom_some _ _ _ (.inl q)⟩
  refine codeAny_call_function hr.depth (KX _ _ lk) rfl S.co S.gen rfl (PySem.W.codeRec_of KX hcd) (hb _ _ _ _ (wpAny_with_toks hz (wpAny_newFunctionEnv_cells S.kind kinds fun env he z1 ic h1 => ?_)))
  subst he
  refine ⟨lim.keeps ic.toInCall.keep, codeAny_func ?_⟩
  obtain ⟨t, ht, hq⟩ := hbody cdv A outer z H vs Y E (hr.deeper _) hsp
  have I := inv_start (CX := L2.CX P w) (E := E) S hr.hd e0 (len _ _ _ _ hsp) r ic
  refine wpAny_mono (ht.run [] z1 (L2.start N vs) H _ h1 I hq) (fun fl z' hs => ?_) fun e z' hs => hs
  have fin : (∃ v σ' H', Inv (cxOf (L2.CX P w) P w K mg base N qual (defScope st) f cdv A outer z H E) [] σ' H' z' ∧ RelV v (match fl with | .ret u => u | _ => .none) ∧ Y v H') → CE outer P w H z Y (match fl with | .ret u => u | _ => .none) z' :=
    fun ⟨v, σ', H', J, rv, q⟩ => ⟨v, H', J.os, J.bare, J.base, J.hok, rv, q⟩
  cases fl with
  | ret u => exact fin hs
  | next => obtain ⟨σ', H', J, q⟩ := hs; exact fin ⟨.non, σ', H', J, rfl, q⟩
  | brk => obtain ⟨_, _, _, q⟩ := hs; exact q.elim
  | cont => obtain ⟨_, _, _, q⟩ := hs; exact q.elim
end L3

namespace L3
open PySem PySem.Spec L2
open PyProof.Rows hiding St
set_option autoImplicit false
section
variable {m : Nat} {X : Cx} {tg a b e o : Expr} {es : List Expr} {te to : TE} {t : TA} {pos : Pos} {pins : List (Addr × Obj)} {σ : St} {H : Hp} {z : Shared} {R : It → Hp → Prop}
theorem one_rec (I : Inv X pins σ H z) : ∀ b ∈ [z.heap.objs.size], FpOk X pins H b := fun b hb => by
  have eb : b = z.heap.objs.size := by simpa using hb
  rw [eb]
  exact I.fpOk (Nat.le_refl _) (I.hok.fresh (Nat.le_refl _))
theorem it_list {a : Addr} {xs : List V} (I : Inv X pins σ H z) (h : SqL X.K H a xs) (q : R (Itl X.K a) H) : wpAny (model X.prog X.w) X.A (pyIter (.ref a)) (PIE X pins σ tg R) X.xe z := by
  obtain ⟨its, rv, pl, _⟩ := I.list h
  exact wpAny_pyIter_list pl.isList ⟨_, [_], _, _, H, rfl, I.kept (t' := z.toks) fun b ob w => Heap.get?_push_of_some _ w, turn_list a _, ⟨_, Heap.get?_push_size _ rfl, rfl, rfl⟩, one_rec I, q⟩
theorem it_tup {a : Addr} {xs : List V} (I : Inv X pins σ H z) (h : SqT X.K H a xs) (q : R (Itt X.K a) H) : wpAny (model X.prog X.w) X.A (pyIter (.ref a)) (PIE X pins σ tg R) X.xe z := by
  obtain ⟨its, rv, pl, _⟩ := I.tuple h
  exact wpAny_pyIter_tuple (show z.heap.IsTuple a its.toArray from pl) ⟨_, [_], _, _, H, rfl, I.kept (t' := z.toks) fun b ob w => Heap.get?_push_of_some _ w, turn_tuple a _, ⟨_, Heap.get?_push_size _ rfl, rfl, rfl⟩, one_rec I, q⟩
theorem qi_list (h : QE m X e te) : QI m X tg e (iList X.K te) := ⟨fun pins z σ H R hz I q => thm hz (h.run pins z σ H _ hz I q) fun v z1 _ ⟨x, H1, I1, r1, a, ea, ⟨xs, hx⟩, q1⟩ => by
  subst ea
  cases r1
  exact it_list I1 hx q1⟩
theorem qi_tup (h : QE m X e te) : QI m X tg e (iTup X.K te) := ⟨fun pins z σ H R hz I q => thm hz (h.run pins z σ H _ hz I q) fun v z1 _ ⟨x, H1, I1, r1, a, ea, ⟨xs, hx⟩, q1⟩ => by
  subst ea
  cases r1
  exact it_tup I1 hx q1⟩
theorem it_str {x : Str} {u : Tok} (I : Inv X pins σ H z) (q : R (Its x) H) : wpAny (model X.prog X.w) X.A (pyIter (.str x u)) (PIE X pins σ tg R) X.xe z := by
  have go : ∀ ty, (ty = "str_ascii_iterator" ∨ ty = "str_iterator") → PIE X pins σ tg R (.ref z.heap.objs.size) { z with heap := z.heap.push { cls := .type ty, data := .fields #[.str x u, .int 0 0] } } :=
    fun ty hty => pi_one (tk := z.toks) I _ (turn_str _ x u ty hty) ⟨_, Heap.get?_push_size _ rfl, rfl, rfl⟩ q
  by_cases ha : x.cps.all (· < 128) = true
  · exact wpAny_pyIter_ascii ha (go _ (.inl rfl))
  · exact wpAny_pyIter_wide (by simpa using ha) (go _ (.inr rfl))
theorem qi_str (h : QE m X e te) : QI m X tg e (iStr te) := ⟨fun pins z σ H R hz I q => thm hz (h.run pins z σ H _ hz I q) fun v z1 _ ⟨x, H1, I1, r1, y, ey, q1⟩ => by
  subst ey
  obtain ⟨u, eu⟩ := r1
  subst eu
  exact it_str I1 q1⟩
theorem qi_range1 {p : Pos} (hg : Gl X "range") (hm : X.mg "range" = none) (ha : QA m X [a] t) (hs : starEach [a] X.env = [(false, eval a X.env)] := by rfl) : QI m X tg (.Call (.Name "range" p) [a] [] pos) (iRng1 t) := by
  refine ⟨fun pins z σ H R hz I q => Call_ (ld_blt I hg hm boot_range (PyProof.Rows.callWith_type1 (thm hz (ha.run pos pins z σ H _ hz I q) fun us z1 _ ⟨vs, H1, I1, r1, n, en, b1, b2, q1⟩ => ?_) hs rfl))⟩
  subst en
  obtain ⟨u, eu, tk, et⟩ := vals1 r1
  subst eu; subst et
  exact call_range_1 (range_it I1 (by omega) (by omega) b1 b2 (by simpa using q1))
theorem qi_range2 {p : Pos} (hg : Gl X "range") (hm : X.mg "range" = none) (ha : QA m X [a, b] t) (hs : starEach [a, b] X.env = [(false, eval a X.env), (false, eval b X.env)] := by rfl) (hs2 : starEach [b] X.env = [(false, eval b X.env)] := by rfl) :
    QI m X tg (.Call (.Name "range" p) [a, b] [] pos) (iRng2 t) := by
  refine ⟨fun pins z σ H R hz I q => Call_ (ld_blt I hg hm boot_range (PyProof.Rows.callWith_type1 (thm hz (ha.run pos pins z σ H _ hz I q) fun us z1 _ ⟨vs, H1, I1, r1, i, j, en, ⟨b1, b2, b3, b4⟩, q1⟩ => ?_) (by rw [hs, hs2]) (by rw [hs2]; rfl)))⟩
  subst en
  obtain ⟨u, u', eu, ⟨tk, et⟩, tk', et'⟩ := vals2 r1
  subst eu; subst et; subst et'
  exact call_range_2 (range_it I1 b1 b2 b3 b4 q1)
variable {name : Str} {apos cpos : Pos} {ty id : String} {r : V → List V → Hp → VK → Prop}
theorem qe_bm (pa : PlainAttrs ty) (slot : Slot ty name id) (hty : typeOf (.builtin id) = pure (.type "method_descriptor")) (hm : MtR X id r) (ho : QE m X o to) (ha : QA m X (e :: es) t)
    (hbase : attributeBase o name X.env (eval o X.env) = eval o X.env := by rfl)
    (hfew : ((backTo cpos (starEach (e :: es) X.env)).all (fun x => !x.1) && (backToKw cpos (keywordEach [] X.env)).all (fun x => x.1.isSome)
      && decide ((e :: es).length + ([] : List Keyword).length + (if ([] : List Keyword).isEmpty then 0 else 1) < 30)) = true := by rfl)
    (hline : (apos.endLine == cpos.line) = true := by rfl) (hs : starEach (e :: es) X.env = (false, eval e X.env) :: starEach es X.env := by rfl) (hpl : (backTo cpos (starEach es X.env)).any (·.1) = false := by rfl) :
    QE m X (.Call (.Attribute o name apos) (e :: es) [] cpos) (tBM X.K ty r to t) := by
  refine ⟨fun pins z σ H Y hz I q => wpAny_Call_method_late hbase hfew hline rfl (thm hz (ho.run pins z σ H _ hz I q) fun v z1 h1 ⟨x, H1, I1, r1, tx, q1⟩ => ?_)⟩
  obtain ⟨k1, k2⟩ := tyV_is I1 r1 tx
  refine ⟨ty, id, pa, slot, hty, k1, k2, ?_⟩
  have go := ha.run cpos pins z1 σ H1 _ h1 I1 q1
  rw [hs] at go ⊢
  exact Calls.callWith_builtin (by show (false || (backTo cpos (starEach es X.env)).any (·.1)) = false; rw [hpl, Bool.false_or]) (Calls.evalArgs_plain (thn go fun us z2 ⟨vs, H2, I2, r2, q2⟩ => hm pins z2 σ H2 x vs v us Y I2 r1 r2 q2))
theorem qe_bm0 (pa : PlainAttrs ty) (slot : Slot ty name id) (hty : typeOf (.builtin id) = pure (.type "method_descriptor")) (hm : MtR X id r) (ho : QE m X o to) (hbase : attributeBase o name X.env (eval o X.env) = eval o X.env := by rfl) (hline : (apos.endLine == cpos.line) = true := by rfl) :
    QE m X (.Call (.Attribute o name apos) [] [] cpos) (tBM0 X.K ty r to) := by
  refine ⟨fun pins z σ H Y hz I q => wpAny_Call_method0_late hbase hline (thm hz (ho.run pins z σ H _ hz I q) fun v z1 h1 ⟨x, H1, I1, r1, tx, q1⟩ => ?_)⟩
  obtain ⟨k1, k2⟩ := tyV_is I1 r1 tx
  exact ⟨ty, id, pa, slot, hty, k1, k2, Calls.callWith_builtin rfl (PySem.evalArgs_none (hm pins z1 σ H1 x [] v [] Y I1 r1 .nil q1))⟩
end
end L3

namespace L3
open PySem PySem.Spec L2
open PyProof.Rows hiding St
set_option autoImplicit false
variable {K : PySem.W.Frag} {T : Tab}

def RvOk (K : PySem.W.Frag) (T : Tab) (G : Gh) (H : Hp) : Rv → V → Prop
  | .v d, x => Rep K T G H d x
  | .ol ds, x => ∃ p vs, x = .ref p ∧ H p = some (.lst vs) ∧ ¬ G.F p ∧ p ∉ G.io ∧ RepL K T G H ds vs
  | .oi c ds, x => ∃ p dx fs, x = .ref p ∧ H p = some (.ins (T.ca c) dx fs) ∧ ¬ G.F p ∧ p ∉ G.io ∧ fs.map (·.1) = (T.fn c).take ds.length ∧ RepL K T G H ds (fs.map (·.2))
/-- an expression's result -/
def ErOk (K : PySem.W.Frag) (T : Tab) (G : Gh) (H : Hp) : Rv → V → Prop
  | .v d, x => Rep K T G H d x
  | .ol ds, x => ∃ p vs, x = .ref p ∧ H p = some (.lst vs) ∧ ¬ G.F p ∧ p ∉ G.io ∧ RepL K T G H ds vs
  | .oi _ _, _ => False
theorem ErOk.rv {G : Gh} {H : Hp} {r : Rv} {x : V} (h : ErOk K T G H r x) : RvOk K T G H r x := by
  cases r with
  | v d => exact h
  | ol ds => exact h
  | oi c ds => exact False.elim h
/-- it is new since the heap H -/
def New (H : Hp) (r : Rv) (x : V) : Prop := r.own = true → ∀ p, x = .ref p → H p = none
theorem New.v {H : Hp} {d : D} {x : V} : New H (.v d) x := fun h => by cases h

theorem RvOk.ext {G G' : Gh} {μ : Mu} {H H' : Hp} (w : WfG K T G μ H) (x : Ext G H G' H') : ∀ {r : Rv} {v : V}, RvOk K T G H r v → RvOk K T G' H' r v
  | .v d, v, h => Rep.kp (x.kp w) d v h
  | .ol ds, v, ⟨p, vs, e, hp, nf, ni, r⟩ => by
    refine ⟨p, vs, e, x.keep p _ hp ni, fun f => ?_, fun i => ?_, RepL.kp (x.kp w) ds vs r⟩
    · rcases x.newF p f with f | f
      · exact nf f
      · rw [hp] at f; cases f
    · have := x.new p i ni
      rw [hp] at this; cases this
  | .oi c ds, v, ⟨p, dx, fs, e, hp, nf, ni, e2, r⟩ => by
    refine ⟨p, dx, fs, e, x.keep p _ hp ni, fun f => ?_, fun i => ?_, e2, RepL.kp (x.kp w) ds _ r⟩
    · rcases x.newF p f with f | f
      · exact nf f
      · rw [hp] at f; cases f
    · have := x.new p i ni
      rw [hp] at this; cases this
theorem ErOk.ext {G G' : Gh} {μ : Mu} {H H' : Hp} (w : WfG K T G μ H) (x : Ext G H G' H') {r : Rv} {v : V} (h : ErOk K T G H r v) : ErOk K T G' H' r v := by
  cases r with
  | v d => exact RvOk.ext w x (r := .v d) h
  | ol ds => exact RvOk.ext w x (r := .ol ds) h
  | oi c ds => exact h
theorem RvOk.own_some {G : Gh} {H : Hp} {r : Rv} {v : V} (h : RvOk K T G H r v) (o : r.own = true) : ∃ p u, v = .ref p ∧ H p = some u ∧ ¬ G.F p ∧ p ∉ G.io := by
  cases r with
  | v d => cases o
  | ol ds => obtain ⟨p, vs, e, hp, nf, ni, _⟩ := h; exact ⟨p, _, e, hp, nf, ni⟩
  | oi c ds => obtain ⟨p, dx, fs, e, hp, nf, ni, _⟩ := h; exact ⟨p, _, e, hp, nf, ni⟩

structure Bs where
  G : Gh
  H : Hp
  /-- self, in an __init__ -/
  s : Addr

structure Wf (K : PySem.W.Frag) (T : Tab) (B : Bs) (G : Gh) (μ : Mu) (H : Hp) (σ : St) (δ : Env') : Prop where
  g : WfG K T G μ H
  x : Ext B.G B.H G H
  ln : δ.length = σ.length
  sl : ∀ (i : Nat) r, δ[i]? = some (some r) → ∃ v, σ[i]? = some (some v) ∧ RvOk K T G H r v
  fr : ∀ (i : Nat) r v, δ[i]? = some (some r) → σ[i]? = some (some v) → New B.H r v
  ds : ∀ (i j : Nat) r r' p, δ[i]? = some (some r) → δ[j]? = some (some r') → r.own = true → r'.own = true → σ[i]? = some (some (.ref p)) → σ[j]? = some (some (.ref p)) → i = j
  sf : ∀ (i c : Nat) vs, δ[i]? = some (some (.oi c vs)) → σ[i]? = some (some (.ref B.s))

theorem Wf.ext {B : Bs} {G G' : Gh} {μ μ' : Mu} {H H' : Hp} {σ : St} {δ : Env'} (w : Wf K T B G μ H σ δ) (x : Ext G H G' H') (g : WfG K T G' μ' H') : Wf K T B G' μ' H' σ δ :=
  ⟨g, w.x.trans x, w.ln, fun i r e => let ⟨v, e1, h⟩ := w.sl i r e; ⟨v, e1, h.ext w.g x⟩, w.fr, w.ds, w.sf⟩

theorem CellOk.kp {G G' : Gh} {H H' : Hp} (x : Kp G H G' H') {a : Addr} (ha : ∀ o, H a = some o → H' a = some o) : ∀ {c : Cell}, CellOk K T G H a c → CellOk K T G' H' a c
  | .lst ds, ⟨vs, e, r⟩ => ⟨vs, ha _ e, RepL.kp x ds vs r⟩
  | .dct ks vs, ⟨kv, e, e2, r⟩ => ⟨kv, ha _ e, e2, RepL.kp x _ _ r⟩
  | .ins c vs, ⟨dx, fs, e, e2, r⟩ => ⟨dx, fs, ha _ e, e2, RepL.kp x _ _ r⟩

/-- what a value becomes where it is kept -/
def Rv.d : Rv → D
  | .v d => d
  | .ol ds => .lst ds
  | .oi c ds => .obj c ds
/-- an expression's result is laid down for good -/
theorem freeze {G Gs : Gh} {μ : Mu} {H Hs : Hp} {r : Rv} {v : V} (w : WfG K T G μ H) (x : Ext Gs Hs G H) (h : ErOk K T G H r v) (n : New Hs r v) :
    ∃ G', WfG K T G' μ H ∧ Kp G H G' H ∧ Ext Gs Hs G' H ∧ Rep K T G' H r.d v ∧ (∀ a, G'.F a → G.F a ∨ (r.own = true ∧ v = .ref a)) ∧ G'.io = G.io := by
  cases r with
  | v d => exact ⟨G, w, .refl G H, x, h, fun a f => .inl f, rfl⟩
  | oi c ds => exact False.elim h
  | ol ds =>
    obtain ⟨p, vs, e, hp, nf, ni, r⟩ := h
    have k : Kp G H ⟨fun a => G.F a ∨ a = p, G.io⟩ H := ⟨fun a f => .inl f, ⟨[], by simp⟩, fun _ _ _ h => h⟩
    refine ⟨⟨fun a => G.F a ∨ a = p, G.io⟩, ⟨?_, w.ln, w.nd, ?_, fun n a c e1 e2 => (w.ce n a c e1 e2).kp k fun _ h => h⟩, k, ⟨fun a f => .inl (x.fr a f), x.io, x.keep, x.new, ?_, x.there⟩, ?_, ?_, rfl⟩
    · rintro a (f | rfl)
      · exact w.fz a f
      · exact ⟨_, hp⟩
    · rintro a hi (f | rfl)
      · exact w.nf a hi f
      · exact ni hi
    · rintro a (f | rfl)
      · exact x.newF a f
      · exact .inr (n rfl _ e)
    · show Rep K T _ H (.lst ds) v
      simp only [Rep]
      exact ⟨p, vs, e, .inr rfl, hp, RepL.kp k ds vs r⟩
    · rintro a (f | rfl)
      · exact .inl f
      · exact .inr ⟨rfl, e⟩
/-- where slots stand at the start, they stand behind a freezing -/
theorem Wf.frozen {B : Bs} {Gs G G' : Gh} {μs μ : Mu} {Hs H : Hp} {σ : St} {δ : Env'} {r : Rv} {v : V} (ws : Wf K T B Gs μs Hs σ δ) (w : Wf K T B G μ H σ δ) (xs : Ext Gs Hs G H) (g : WfG K T G' μ H) (k : Kp G H G' H) (x : Ext Gs Hs G' H) (n : New Hs r v)
    (hF : ∀ a, G'.F a → G.F a ∨ (r.own = true ∧ v = .ref a)) (hio : G'.io = G.io) : Wf K T B G' μ H σ δ := by
  refine ⟨g, ws.x.trans x, w.ln, fun i q e => ?_, w.fr, w.ds, w.sf⟩
  obtain ⟨u, e1, h⟩ := w.sl i q e
  refine ⟨u, e1, ?_⟩
  have key : ∀ p, q.own = true → u = .ref p → ¬ G.F p → ¬ G'.F p := fun p ho eu nf f => by
    rcases hF p f with f | ⟨ho', ev⟩
    · exact nf f
    · have hn := n ho' p ev
      obtain ⟨v0, e0, h0⟩ := ws.sl i q e
      rw [e1] at e0; cases e0
      obtain ⟨p', u', ep, hp, _⟩ := h0.own_some ho
      rw [eu] at ep; cases ep
      rw [hn] at hp; cases hp
  cases q with
  | v d => exact Rep.kp k d u h
  | ol ds =>
    obtain ⟨p, vs, e2, hp, nf, ni, r⟩ := h
    exact ⟨p, vs, e2, hp, key p rfl e2 nf, by rw [hio]; exact ni, RepL.kp k ds vs r⟩
  | oi c ds =>
    obtain ⟨p, dx, fs, e2, hp, nf, ni, e3, r⟩ := h
    exact ⟨p, dx, fs, e2, hp, key p rfl e2 nf, by rw [hio]; exact ni, e3, RepL.kp k ds _ r⟩

/-! ### the judgements -/
abbrev KR := Rv → Mu → Prop
abbrev KX := Exc → Mu → Prop
/-- an expression by data -/
abbrev Sem' := Env' → Mu → KR → KX → Prop
/-- several -/
abbrev SemA := Env' → Mu → (List D → Mu → Prop) → KX → Prop
structure En where
  nx : Env' → Mu → Prop
  rt : Rv → Mu → Prop
  bk : Env' → Mu → Prop := fun _ _ => False
  ct : Env' → Mu → Prop := fun _ _ => False
  ex : Exc → Env' → Mu → Prop := fun _ _ _ => False
abbrev SSem := Env' → Mu → En → Prop

/-- an exception as it lies -/
def ExcOk (K : PySem.W.Frag) (T : Tab) (G : Gh) (H : Hp) (e : Exc) (cls : Value) (od : Option Addr) : Prop :=
  cls = .ref (T.ca e.c) ∧ ((e.vs = [] ∧ od = none) ∨ ∃ d fs, od = some d ∧ H d = some (.xd fs) ∧ fs.map (·.1) = T.fn e.c ∧ RepL K T G H e.vs (fs.map (·.2)))

/-- what the wish takes -/
def Xs (K : PySem.W.Frag) (T : Tab) (B : Bs) (W : WX) (x : Exc → Env' → Mu → Prop) : Prop :=
  ∀ e δ μ, x e δ μ → ∀ G H σ cls od, Wf K T B G μ H σ δ → ExcOk K T G H e cls od → W cls od σ H

def tE (K : PySem.W.Frag) (T : Tab) (B : Bs) (W : WX) (g : Sem') : TE := fun σ H Q => ∃ G δ μ k x, Wf K T B G μ H σ δ ∧ g δ μ k x ∧
  (∀ r μ', k r μ' → ∀ v G' H', Wf K T B G' μ' H' σ δ → Ext G H G' H' → ErOk K T G' H' r v → New H r v → Q v H') ∧
  (∀ e μ', x e μ' → ∀ G' H' cls od, Wf K T B G' μ' H' σ δ → ExcOk K T G' H' e cls od → W cls od σ H')
/-- its result laid down -/
def tD (K : PySem.W.Frag) (T : Tab) (B : Bs) (W : WX) (g : Sem') : TE := fun σ H Q => ∃ G δ μ k x, Wf K T B G μ H σ δ ∧ g δ μ k x ∧
  (∀ r μ', k r μ' → ∀ v G' H', Wf K T B G' μ' H' σ δ → Ext G H G' H' → Rep K T G' H' r.d v → Q v H') ∧
  (∀ e μ', x e μ' → ∀ G' H' cls od, Wf K T B G' μ' H' σ δ → ExcOk K T G' H' e cls od → W cls od σ H')
def tT (K : PySem.W.Frag) (T : Tab) (B : Bs) (W : WX) (g : Env' → Mu → (Bool → Mu → Prop) → KX → Prop) : TT := fun σ H Q => ∃ G δ μ k x, Wf K T B G μ H σ δ ∧ g δ μ k x ∧
  (∀ b μ', k b μ' → ∀ G' H', Wf K T B G' μ' H' σ δ → Ext G H G' H' → Q b H') ∧
  (∀ e μ', x e μ' → ∀ G' H' cls od, Wf K T B G' μ' H' σ δ → ExcOk K T G' H' e cls od → W cls od σ H')
def tA (K : PySem.W.Frag) (T : Tab) (B : Bs) (W : WX) (g : SemA) : TA := fun σ H Q => ∃ G δ μ k x, Wf K T B G μ H σ δ ∧ g δ μ k x ∧
  (∀ ds μ', k ds μ' → ∀ vs G' H', Wf K T B G' μ' H' σ δ → Ext G H G' H' → RepL K T G' H' ds vs → Q vs H') ∧
  (∀ e μ', x e μ' → ∀ G' H' cls od, Wf K T B G' μ' H' σ δ → ExcOk K T G' H' e cls od → W cls od σ H')
/-- what is wanted behind a statement, by data and by heaps -/
structure EnOk (K : PySem.W.Frag) (T : Tab) (B : Bs) (W : WX) (G : Gh) (H : Hp) (D : En) (Q : Ends) : Prop where
  nx : ∀ δ' μ', D.nx δ' μ' → ∀ G' H' σ', Wf K T B G' μ' H' σ' δ' → Kp G H G' H' → Q.nx σ' H'
  bk : ∀ δ' μ', D.bk δ' μ' → ∀ G' H' σ', Wf K T B G' μ' H' σ' δ' → Kp G H G' H' → Q.bk σ' H'
  ct : ∀ δ' μ', D.ct δ' μ' → ∀ G' H' σ', Wf K T B G' μ' H' σ' δ' → Kp G H G' H' → Q.ct σ' H'
  rt : ∀ r μ', D.rt r μ' → ∀ v G' H', WfG K T G' μ' H' → Ext B.G B.H G' H' → ErOk K T G' H' r v → New B.H r v → Q.rt v H'
  ex : Xs K T B W D.ex
theorem EnOk.kp {K : PySem.W.Frag} {T : Tab} {B : Bs} {W : WX} {G G1 : Gh} {H H1 : Hp} {D : En} {Q : Ends} (x : EnOk K T B W G H D Q) (k : Kp G H G1 H1) : EnOk K T B W G1 H1 D Q :=
  ⟨fun δ μ h G' H' σ' w k' => x.nx δ μ h G' H' σ' w (k.trans k'), fun δ μ h G' H' σ' w k' => x.bk δ μ h G' H' σ' w (k.trans k'), fun δ μ h G' H' σ' w k' => x.ct δ μ h G' H' σ' w (k.trans k'), x.rt, x.ex⟩
def tS (K : PySem.W.Frag) (T : Tab) (B : Bs) (W : WX) (g : SSem) : TS := fun Q σ H => ∃ G δ μ D, Wf K T B G μ H σ δ ∧ g δ μ D ∧
  EnOk K T B W G H D Q

theorem QE.weak {m : Nat} {X : Cx} {e : Expr} {t t' : TE} (h : QE m X e t) (hw : ∀ σ H Y, t' σ H Y → t σ H Y) : QE m X e t' := ⟨fun pins z σ H Y hz I q => h.run pins z σ H Y hz I (hw σ H Y q)⟩
theorem QT.weak {m : Nat} {X : Cx} {e : Expr} {t t' : TT} (h : QT m X e t) (hw : ∀ σ H Y, t' σ H Y → t σ H Y) : QT m X e t' := ⟨fun pins z σ H Y hz I q => h.run pins z σ H Y hz I (hw σ H Y q)⟩
theorem QW.weak {m : Nat} {X : Cx} {e : Expr} {t t' : TT} (h : QW m X e t) (hw : ∀ σ H Y, t' σ H Y → t σ H Y) : QW m X e t' := ⟨fun wh pins z σ H Y hz I q => h.run wh pins z σ H Y hz I (hw σ H Y q)⟩
theorem QA.weak {m : Nat} {X : Cx} {e : List Expr} {t t' : TA} (h : QA m X e t) (hw : ∀ σ H Y, t' σ H Y → t σ H Y) : QA m X e t' := ⟨fun pos pins z σ H Y hz I q => h.run pos pins z σ H Y hz I (hw σ H Y q)⟩
theorem QO.weak {m : Nat} {X : Cx} {e : Option Expr} {t t' : TO} (h : QO m X e t) (hw : ∀ σ H Y, t' σ H Y → t σ H Y) : QO m X e t' := ⟨fun pins z σ H Y hz I q => h.run pins z σ H Y hz I (hw σ H Y q)⟩
theorem QI.weak {m : Nat} {X : Cx} {tg e : Expr} {t t' : TI} (h : QI m X tg e t) (hw : ∀ σ H R, t' σ H R → t σ H R) : QI m X tg e t' := ⟨fun pins z σ H R hz I q => h.run pins z σ H R hz I (hw σ H R q)⟩
theorem QS.weak {m : Nat} {X : Cx} {e : Stmt} {t t' : TS} (h : QS m X e t) (hw : ∀ D σ H, t' D σ H → t D σ H) : QS m X e t' := ⟨fun pins z σ H D hz I q => h.run pins z σ H D hz I (hw D σ H q)⟩
theorem QSs.weak {m : Nat} {X : Cx} {e : List Stmt} {t t' : TS} (h : QSs m X e t) (hw : ∀ D σ H, t' D σ H → t D σ H) : QSs m X e t' := ⟨fun pins z σ H D hz I q => h.run pins z σ H D hz I (hw D σ H q)⟩

abbrev DE (m : Nat) (X : Cx) (T : Tab) (B : Bs) (W : WX) (e : Expr) (g : Sem') : Prop := QE m X e (tE X.K T B W g)
abbrev DV (m : Nat) (X : Cx) (T : Tab) (B : Bs) (W : WX) (e : Expr) (g : Sem') : Prop := QE m X e (tD X.K T B W g)
abbrev DT (m : Nat) (X : Cx) (T : Tab) (B : Bs) (W : WX) (e : Expr) (g : Env' → Mu → (Bool → Mu → Prop) → KX → Prop) : Prop := QT m X e (tT X.K T B W g)
abbrev DA (m : Nat) (X : Cx) (T : Tab) (B : Bs) (W : WX) (es : List Expr) (g : SemA) : Prop := QA m X es (tA X.K T B W g)
abbrev DS (m : Nat) (X : Cx) (T : Tab) (B : Bs) (W : WX) (st : Stmt) (g : SSem) : Prop := QS m X st (tS X.K T B W g)
abbrev DSs (m : Nat) (X : Cx) (T : Tab) (B : Bs) (W : WX) (st : List Stmt) (g : SSem) : Prop := QSs m X st (tS X.K T B W g)

section
variable {m : Nat} {X : Cx} {B : Bs} {W : WX} {e : Expr} {g : Sem'}
theorem de_v (h : DE m X T B W e g) : DV m X T B W e g := QE.weak h fun σ H Q ⟨G, δ, μ, k, x, w, q, hk, hx⟩ =>
  ⟨G, δ, μ, k, x, w, q, fun r μ' hr v G' H' w' x' ok n => by
    obtain ⟨G2, g2, k2, x2, r2, f2, i2⟩ := freeze w'.g x' ok n
    exact hk r μ' hr v G2 H' (w.frozen w' x' g2 k2 x2 n f2 i2) x2 r2, hx⟩
end
end L3

namespace L3
open PySem PySem.Spec L2
open PyProof.Rows hiding St
set_option autoImplicit false
variable {K : PySem.W.Frag} {T : Tab}

/-! ### new objects -/
theorem Kp.upd {G G' : Gh} {H : Hp} {p : Addr} {o : HO} (hp : H p = none) (fr : ∀ a, G.F a → G'.F a) (io : ∃ l, G'.io = G.io ++ l) : Kp G H G' (upd H p o) :=
  ⟨fr, io, fun a u f e => by rw [upd_ne (ne_of_none e hp)]; exact e⟩
/-- laid down for good at once -/
theorem Wf.allocF {B : Bs} {G : Gh} {μ : Mu} {H : Hp} {σ : St} {δ : Env'} (w : Wf K T B G μ H σ δ) {p : Addr} (hp : H p = none) (o : HO) :
    Wf K T B ⟨fun a => G.F a ∨ a = p, G.io⟩ μ (upd H p o) σ δ ∧ Ext G H ⟨fun a => G.F a ∨ a = p, G.io⟩ (upd H p o) := by
  have pi : p ∉ G.io := fun h => by obtain ⟨u, e⟩ := w.g.there h; rw [hp] at e; cases e
  have x : Ext G H ⟨fun a => G.F a ∨ a = p, G.io⟩ (upd H p o) := ⟨fun a f => .inl f, ⟨[], by simp⟩, fun a u e _ => by rw [upd_ne (ne_of_none e hp)]; exact e, fun a h n => absurd h n, fun a f => by
    rcases f with f | rfl
    · exact .inl f
    · exact .inr hp, fun a h => by obtain ⟨u, e⟩ := w.g.there h; exact ⟨u, by rw [upd_ne (ne_of_none e hp)]; exact e⟩⟩
  refine ⟨w.ext x ⟨?_, w.g.ln, w.g.nd, ?_, fun n a c e1 e2 => (w.g.ce n a c e1 e2).kp (x.kp w.g) fun u e => by rw [upd_ne (ne_of_none e hp)]; exact e⟩, x⟩
  · rintro a (f | rfl)
    · obtain ⟨u, e⟩ := w.g.fz a f
      exact ⟨u, by rw [upd_ne (ne_of_none e hp)]; exact e⟩
    · exact ⟨_, upd_same⟩
  · rintro a h (f | rfl)
    · exact w.g.nf a h f
    · exact pi h
/-- a list of one's own -/
theorem Wf.allocO {B : Bs} {G : Gh} {μ : Mu} {H : Hp} {σ : St} {δ : Env'} (w : Wf K T B G μ H σ δ) {p : Addr} (hp : H p = none) (o : HO) :
    Wf K T B G μ (upd H p o) σ δ ∧ Ext G H G (upd H p o) ∧ ¬ G.F p ∧ p ∉ G.io := by
  have pi : p ∉ G.io := fun h => by obtain ⟨u, e⟩ := w.g.there h; rw [hp] at e; cases e
  have pf : ¬ G.F p := fun h => by obtain ⟨u, e⟩ := w.g.fz p h; rw [hp] at e; cases e
  have x : Ext G H G (upd H p o) := ⟨fun a f => f, ⟨[], by simp⟩, fun a u e _ => by rw [upd_ne (ne_of_none e hp)]; exact e, fun a h n => absurd h n, fun a f => .inl f, fun a h => by obtain ⟨u, e⟩ := w.g.there h; exact ⟨u, by rw [upd_ne (ne_of_none e hp)]; exact e⟩⟩
  refine ⟨w.ext x ⟨?_, w.g.ln, w.g.nd, w.g.nf, fun n a c e1 e2 => (w.g.ce n a c e1 e2).kp (x.kp w.g) fun u e => by rw [upd_ne (ne_of_none e hp)]; exact e⟩, x, pf, pi⟩
  intro a f
  obtain ⟨u, e⟩ := w.g.fz a f
  exact ⟨u, by rw [upd_ne (ne_of_none e hp)]; exact e⟩
theorem Wf.newL {B : Bs} {G : Gh} {μ : Mu} {H : Hp} {σ : St} {δ : Env'} (w : Wf K T B G μ H σ δ) {p : Addr} (hp : H p = none) {ds : List D} {vs : List V} (r : RepL K T G H ds vs) :
    Wf K T B G μ (upd H p (.lst vs)) σ δ ∧ Ext G H G (upd H p (.lst vs)) ∧ ErOk K T G (upd H p (.lst vs)) (.ol ds) (.ref p) ∧ New H (.ol ds) (.ref p) := by
  obtain ⟨w', x, pf, pi⟩ := w.allocO hp (.lst vs)
  exact ⟨w', x, ⟨p, vs, rfl, upd_same, pf, pi, RepL.kp (x.kp w.g) ds vs r⟩, fun _ q e => by cases e; exact hp⟩
theorem Wf.newT {B : Bs} {G : Gh} {μ : Mu} {H : Hp} {σ : St} {δ : Env'} (w : Wf K T B G μ H σ δ) {p : Addr} (hp : H p = none) {ds : List D} {vs : List V} (r : RepL K T G H ds vs) :
    ∃ G', Wf K T B G' μ (upd H p (.tup vs)) σ δ ∧ Ext G H G' (upd H p (.tup vs)) ∧ ErOk K T G' (upd H p (.tup vs)) (.v (.tup ds)) (.ref p) ∧ New H (.v (.tup ds)) (.ref p) := by
  obtain ⟨w', x⟩ := w.allocF hp (.tup vs)
  refine ⟨_, w', x, ?_, .v⟩
  show Rep K T _ _ (.tup ds) _
  simp only [Rep]
  exact ⟨p, vs, rfl, .inl ⟨.inr rfl, upd_same⟩, RepL.kp (x.kp w.g) ds vs r⟩

/-! ### what data are -/
def asL (μ : Mu) : D → Option (List D)
  | .lst ds => some ds
  | .scr ns => some (ns.map .int)
  | .loc n => match μ[n]? with
    | some (.lst ds) => some ds
    | _ => none
  | _ => none
theorem RepL.ints {G : Gh} {H : Hp} : ∀ ns : List Int, RepL K T G H (ns.map .int) (ns.map V.int)
  | [] => .nil
  | n :: ns => .cons (by simp only [Rep]) (RepL.ints ns)
theorem asL_of {G : Gh} {μ : Mu} {H : Hp} (w : WfG K T G μ H) {d : D} {ds : List D} {x : V} (r : Rep K T G H d x) (h : asL μ d = some ds) : ∃ a vs, x = .ref a ∧ SqL K H a vs ∧ RepL K T G H ds vs ∧ True := by
  cases d with
  | lst es =>
    cases h
    simp only [Rep] at r
    obtain ⟨a, vs, e, f, h1, h2⟩ := r
    exact ⟨a, vs, e, .of h1, h2, trivial⟩
  | scr ns =>
    cases h
    simp only [Rep] at r
    obtain ⟨a, e, h⟩ := r
    rcases h with ⟨f, o, h1⟩ | h
    · exact ⟨a, _, e, .inl (.inr ⟨o, h1⟩), .ints ns, trivial⟩
    · exact ⟨a, _, e, .inr h, .ints ns, trivial⟩
  | loc n =>
    simp only [Rep] at r
    obtain ⟨a, e, hn⟩ := r
    simp only [asL] at h
    split at h
    · rename_i es hm
      cases h
      obtain ⟨vs, h1, h2⟩ := w.ce n a _ hn hm
      exact ⟨a, vs, e, .of h1, h2, trivial⟩
    · cases h
  | _ => cases h
def asT : D → Option (List D)
  | .tup ds => some ds
  | _ => none
theorem tup_of {G : Gh} {H : Hp} {ds : List D} {x : V} (r : Rep K T G H (.tup ds) x) : ∃ a vs, x = .ref a ∧ SqT K H a vs ∧ RepL K T G H ds vs := by
  simp only [Rep] at r
  obtain ⟨a, vs, e, h1, h2⟩ := r
  refine ⟨a, vs, e, ?_, h2⟩
  rcases h1 with ⟨_, h1⟩ | h1
  · exact .of h1
  · exact .inr h1

/-! ### equality -/
mutual
def D.py : D → Option PyData
  | .non => some .none
  | .bl b => some (.bool b)
  | .int i => some (.int i)
  | .str s => some (.str (strOf s))
  | .tup ds => (pyL ds).map .tuple
  | .lst ds => (pyL ds).map .list
  | _ => none
def pyL : List D → Option (List PyData)
  | [] => some []
  | d :: ds => (D.py d).bind fun p => (pyL ds).map fun ps => p :: ps
end
/-- a changing list seen as a list -/
def vw (μ : Mu) : D → D
  | .loc n => match μ[n]? with
    | some (.lst ds) => .lst ds
    | _ => .loc n
  | d => d
mutual
/-- may be compared -/
def D.cmp : D → Bool
  | .non | .bl _ | .int _ | .str _ => true
  | .tup ds | .lst ds => cmpL ds
  | _ => false
def cmpL : List D → Bool
  | [] => true
  | d :: ds => D.cmp d && cmpL ds
end
mutual
def D.dep : D → Nat
  | .tup ds | .lst ds => depL ds + 1
  | _ => 0
def depL : List D → Nat
  | [] => 0
  | d :: ds => max (D.dep d) (depL ds)
end
mutual
def deq : D → D → Bool
  | .non, .non => true
  | .bl a, .bl b => a == b
  | .bl a, .int j => (if a then 1 else 0) == j
  | .int i, .bl b => i == (if b then 1 else 0)
  | .int i, .int j => i == j
  | .str x, .str y => x == y
  | .lst xs, .lst ys => deqL xs ys
  | .tup xs, .tup ys => deqL xs ys
  | _, _ => false
def deqL : List D → List D → Bool
  | [], [] => true
  | x :: xs, y :: ys => deq x y && deqL xs ys
  | _, _ => false
end
theorem strOf_inj {a b : List Nat} : (strOf a == strOf b) = (a == b) := by
  by_cases e : a = b
  · subst e; simp
  · rw [beq_eq_false_iff_ne.mpr e]
    refine beq_eq_false_iff_ne.mpr fun h => e ?_
    have : a.toArray = b.toArray := congrArg Str.cps h
    simpa using this
mutual
theorem py_of : ∀ d : D, d.cmp = true → ∃ p, d.py = some p ∧ p.depth = d.dep
  | .non, _ => ⟨_, rfl, rfl⟩
  | .bl b, _ => ⟨_, rfl, rfl⟩
  | .int i, _ => ⟨_, rfl, rfl⟩
  | .str s, _ => ⟨_, rfl, rfl⟩
  | .tup ds, h => by
    obtain ⟨ps, e, q⟩ := pyL_of ds (by simpa only [D.cmp] using h)
    exact ⟨.tuple ps, by simp only [D.py, e]; rfl, by simp only [PyData.depth, D.dep, q]⟩
  | .lst ds, h => by
    obtain ⟨ps, e, q⟩ := pyL_of ds (by simpa only [D.cmp] using h)
    exact ⟨.list ps, by simp only [D.py, e]; rfl, by simp only [PyData.depth, D.dep, q]⟩
  | .scr _, h => by simp [D.cmp] at h
  | .dct _ _, h => by simp [D.cmp] at h
  | .obj _ _, h => by simp [D.cmp] at h
  | .loc _, h => by simp [D.cmp] at h
  | .cst _, h => by simp [D.cmp] at h
theorem pyL_of : ∀ ds : List D, cmpL ds = true → ∃ ps, pyL ds = some ps ∧ PyData.depthAll ps = depL ds
  | [], _ => ⟨[], rfl, rfl⟩
  | d :: ds, h => by
    simp only [cmpL, Bool.and_eq_true] at h
    obtain ⟨p, e1, q1⟩ := py_of d h.1
    obtain ⟨ps, e2, q2⟩ := pyL_of ds h.2
    exact ⟨p :: ps, by simp only [pyL, e1, e2]; rfl, by simp only [PyData.depthAll, depL, q1, q2]⟩
end
mutual
theorem deq_py : ∀ (a b : D) (p q : PyData), a.py = some p → b.py = some q → PyData.eqv p q = deq a b
  | .non, b, p, q, h1, h2 => by
    cases h1
    cases b <;> simp only [D.py, Option.map_eq_some_iff, Option.some.injEq, reduceCtorEq] at h2
    all_goals first | (obtain ⟨ps, _, rfl⟩ := h2; simp [PyData.eqv, deq]) | (subst h2; simp [PyData.eqv, deq])
  | .bl x, b, p, q, h1, h2 => by
    cases h1
    cases b <;> simp only [D.py, Option.map_eq_some_iff, Option.some.injEq, reduceCtorEq] at h2
    all_goals first | (obtain ⟨ps, _, rfl⟩ := h2; simp [PyData.eqv, deq]) | (subst h2; simp [PyData.eqv, deq])
  | .int x, b, p, q, h1, h2 => by
    cases h1
    cases b <;> simp only [D.py, Option.map_eq_some_iff, Option.some.injEq, reduceCtorEq] at h2
    all_goals first | (obtain ⟨ps, _, rfl⟩ := h2; simp [PyData.eqv, deq]) | (subst h2; simp [PyData.eqv, deq])
  | .str x, b, p, q, h1, h2 => by
    cases h1
    cases b <;> simp only [D.py, Option.map_eq_some_iff, Option.some.injEq, reduceCtorEq] at h2
    case str y => subst h2; simp only [PyData.eqv, deq]; exact strOf_inj
    all_goals first | (obtain ⟨ps, _, rfl⟩ := h2; simp [PyData.eqv, deq]) | (subst h2; simp [PyData.eqv, deq])
  | .tup xs, b, p, q, h1, h2 => by
    simp only [D.py, Option.map_eq_some_iff] at h1
    obtain ⟨ps, e1, rfl⟩ := h1
    cases b <;> simp only [D.py, Option.map_eq_some_iff, Option.some.injEq, reduceCtorEq] at h2
    case tup ys => obtain ⟨qs, e2, rfl⟩ := h2; simp only [PyData.eqv, deq]; exact deqL_py xs ys ps qs e1 e2
    all_goals first | (obtain ⟨ps, _, rfl⟩ := h2; simp [PyData.eqv, deq]) | (subst h2; simp [PyData.eqv, deq])
  | .lst xs, b, p, q, h1, h2 => by
    simp only [D.py, Option.map_eq_some_iff] at h1
    obtain ⟨ps, e1, rfl⟩ := h1
    cases b <;> simp only [D.py, Option.map_eq_some_iff, Option.some.injEq, reduceCtorEq] at h2
    case lst ys => obtain ⟨qs, e2, rfl⟩ := h2; simp only [PyData.eqv, deq]; exact deqL_py xs ys ps qs e1 e2
    all_goals first | (obtain ⟨ps, _, rfl⟩ := h2; simp [PyData.eqv, deq]) | (subst h2; simp [PyData.eqv, deq])
  | .scr _, _, _, _, h, _ => by simp [D.py] at h
  | .dct _ _, _, _, _, h, _ => by simp [D.py] at h
  | .obj _ _, _, _, _, h, _ => by simp [D.py] at h
  | .loc _, _, _, _, h, _ => by simp [D.py] at h
  | .cst _, _, _, _, h, _ => by simp [D.py] at h
theorem deqL_py : ∀ (xs ys : List D) (ps qs : List PyData), pyL xs = some ps → pyL ys = some qs → PyData.eqvAll ps qs = deqL xs ys
  | [], ys, ps, qs, h1, h2 => by
    cases h1
    cases ys with
    | nil => cases h2; simp [PyData.eqvAll, deqL]
    | cons y ys =>
      simp only [pyL, Option.bind_eq_some_iff, Option.map_eq_some_iff] at h2
      obtain ⟨q, _, qs', _, rfl⟩ := h2
      simp [PyData.eqvAll, deqL]
  | x :: xs, ys, ps, qs, h1, h2 => by
    simp only [pyL, Option.bind_eq_some_iff, Option.map_eq_some_iff] at h1
    obtain ⟨p, e1, ps', e2, rfl⟩ := h1
    cases ys with
    | nil => cases h2; simp [PyData.eqvAll, deqL]
    | cons y ys =>
      simp only [pyL, Option.bind_eq_some_iff, Option.map_eq_some_iff] at h2
      obtain ⟨q, e3, qs', e4, rfl⟩ := h2
      simp only [PyData.eqvAll, deqL]
      rw [deq_py x y p q e1 e3, deqL_py xs ys ps' qs' e2 e4]
end
mutual
theorem Rep.dp {G : Gh} {H : Hp} : ∀ (d : D) (v : V) (p : PyData), Rep K T G H d v → d.py = some p → Dp K H v p ∧ p.canLay0 = true
  | .non, v, p, r, e => by cases e; simp only [Rep] at r; subst r; exact ⟨.non, by simp [PyData.canLay0]⟩
  | .bl b, v, p, r, e => by cases e; simp only [Rep] at r; subst r; exact ⟨.bl b, by simp [PyData.canLay0]⟩
  | .int i, v, p, r, e => by cases e; simp only [Rep] at r; subst r; exact ⟨.int i, by simp [PyData.canLay0]⟩
  | .str s, v, p, r, e => by
    cases e; simp only [Rep] at r; obtain ⟨r, _, hc⟩ := r; subst r
    refine ⟨.str _, ?_⟩
    simp only [PyData.canLay0, PyData.strOk, strOf]
    rw [Array.all_eq_true']
    intro c hm
    exact decide_eq_true (hc c (by simpa using hm))
  | .tup ds, v, p, r, e => by
    obtain ⟨a, vs, rfl, h1, h2⟩ := tup_of r
    simp only [D.py, Option.map_eq_some_iff] at e
    obtain ⟨ps, e1, rfl⟩ := e
    obtain ⟨q1, q2⟩ := RepL.dp ds vs ps h2 e1
    exact ⟨.tup h1 q1, by simpa only [PyData.canLay0] using q2⟩
  | .lst ds, v, p, r, e => by
    simp only [Rep] at r
    obtain ⟨a, vs, rfl, _, h1, h2⟩ := r
    simp only [D.py, Option.map_eq_some_iff] at e
    obtain ⟨ps, e1, rfl⟩ := e
    obtain ⟨q1, q2⟩ := RepL.dp ds vs ps h2 e1
    exact ⟨.lst (.of h1) q1, by simpa only [PyData.canLay0] using q2⟩
  | .scr _, _, _, _, e => by simp [D.py] at e
  | .dct _ _, _, _, _, e => by simp [D.py] at e
  | .obj _ _, _, _, _, e => by simp [D.py] at e
  | .loc _, _, _, _, e => by simp [D.py] at e
  | .cst _, _, _, _, e => by simp [D.py] at e
theorem RepL.dp {G : Gh} {H : Hp} : ∀ (ds : List D) (vs : List V) (ps : List PyData), RepL K T G H ds vs → pyL ds = some ps → DpAll K H vs ps ∧ PyData.canLayAll0 ps = true
  | [], vs, ps, r, e => by cases e; simp only [RepL] at r; subst r; exact ⟨.nil, by simp [PyData.canLayAll0]⟩
  | d :: ds, vs, ps, r, e => by
    simp only [RepL] at r
    obtain ⟨y, ys, rfl, h1, h2⟩ := r
    simp only [pyL, Option.bind_eq_some_iff, Option.map_eq_some_iff] at e
    obtain ⟨p, e1, ps', e2, rfl⟩ := e
    obtain ⟨q1, q2⟩ := Rep.dp d y p h1 e1
    obtain ⟨q3, q4⟩ := RepL.dp ds ys ps' h2 e2
    exact ⟨.cons q1 q3, by simp only [PyData.canLayAll0, q2, q4]; rfl⟩
end
theorem vw_dp {G : Gh} {μ : Mu} {H : Hp} (w : WfG K T G μ H) {d : D} {v : V} {p : PyData} (r : Rep K T G H d v) (e : (vw μ d).py = some p) : Dp K H v p ∧ p.canLay0 = true := by
  cases d with
  | loc n =>
    simp only [vw] at e
    split at e
    · rename_i ds hm
      simp only [Rep] at r
      obtain ⟨a, rfl, hn⟩ := r
      obtain ⟨vs, h1, h2⟩ := w.ce n a _ hn hm
      simp only [D.py, Option.map_eq_some_iff] at e
      obtain ⟨ps, e1, rfl⟩ := e
      obtain ⟨q1, q2⟩ := RepL.dp ds vs ps h2 e1
      exact ⟨.lst (.of h1) q1, by simpa only [PyData.canLay0] using q2⟩
    · simp [D.py] at e
  | _ => exact Rep.dp _ _ _ r e

/-! ### two-place operations by data -/
abbrev OpF := Mu → D → D → (Rv → Prop) → Prop
structure OpD (X : Cx) (T : Tab) (f : Value → Value → Sem Value) (o : OpF) : Prop where
  run : ∀ (B : Bs), OpR X f fun x y H Q => ∃ G μ σ δ d e k, Wf X.K T B G μ H σ δ ∧ Rep X.K T G H d x ∧ Rep X.K T G H e y ∧ o μ d e k ∧
    ∀ r, k r → ∀ v G' H', Wf X.K T B G' μ H' σ δ → Ext G H G' H' → ErOk X.K T G' H' r v → New H r v → Q v H'
section
variable {X : Cx}
theorem Wf.same {B : Bs} {G : Gh} {μ : Mu} {H : Hp} {σ : St} {δ : Env'} (w : Wf K T B G μ H σ δ) : Ext G H G H := Ext.refl w.g
/-- results that are no new objects -/
theorem val_of {B : Bs} {G : Gh} {μ : Mu} {H : Hp} {σ : St} {δ : Env'} {k : Rv → Prop} {Q : VK} {d : D} {v : V} (w : Wf K T B G μ H σ δ)
    (hk : ∀ r, k r → ∀ v G' H', Wf K T B G' μ H' σ δ → Ext G H G' H' → ErOk K T G' H' r v → New H r v → Q v H') (h : k (.v d)) (r : Rep K T G H d v) : Q v H :=
  hk _ h v G H w w.same r .v
def strMax : Nat := 0x110000
def opAdd : OpF := fun μ d e k => match d, e with
  | .int i, .int j => k (.v (.int (i + j)))
  | .str a, .str b => a.length + b.length ≤ sizeLine ∧ k (.v (.str (a ++ b)))
  | .tup a, .tup b => a.length + b.length ≤ sizeLine ∧ k (.v (.tup (a ++ b)))
  | .lst a, .lst b => a.length + b.length ≤ sizeLine ∧ k (.ol (a ++ b))
  | _, _ => False
theorem strOf_append (a b : List Nat) : strOf a ++ strOf b = strOf (a ++ b) := by
  show Str.append _ _ = _
  simp [Str.append, strOf]
theorem strOf_length (a : List Nat) : (strOf a).length = a.length := by simp [strOf, Str.length]
theorem d_add : OpD X T (binaryOp .Add) opAdd := by
  refine ⟨fun B pins s σ0 H x y v u Q I rx ry h => ?_⟩
  obtain ⟨G, μ, σ, δ, d, e, k, w, rd, re, o, hk⟩ := h
  unfold opAdd at o
  split at o
  · simp only [Rep] at rd re
    exact op_add pins s σ0 H x y v u Q I rx ry ⟨_, _, rd, re, val_of w hk o (by simp only [Rep])⟩
  · rename_i a b
    simp only [Rep] at rd re
    obtain ⟨rd, la, ca⟩ := rd
    obtain ⟨re, lb, cb⟩ := re
    obtain ⟨o1, o2⟩ := o
    refine op_add_str pins s σ0 H x y v u Q I rx ry ⟨_, _, rd, re, by rw [strOf_length, strOf_length]; exact o1, val_of w hk o2 ?_⟩
    simp only [Rep]
    exact ⟨by rw [strOf_append], by rw [List.length_append]; exact o1, fun c h => (List.mem_append.mp h).elim (ca c) (cb c)⟩
  · rename_i a b
    obtain ⟨o1, o2⟩ := o
    obtain ⟨p, vs, rfl, h1, r1⟩ := tup_of rd
    obtain ⟨q, ws, rfl, h2, r2⟩ := tup_of re
    have l1 := r1.length
    have l2 := r2.length
    refine op_catA pins s σ0 H _ _ v u Q I rx ry ⟨p, q, vs, ws, rfl, rfl, h1, h2, by omega, fun e => ?_, fun _ e => ?_, fun _ _ l hl => ?_⟩
    · subst e
      have ea : a = [] := List.eq_nil_of_length_eq_zero (by rw [← l1]; rfl)
      subst ea
      exact val_of w hk o2 re
    · subst e
      have ea : b = [] := List.eq_nil_of_length_eq_zero (by rw [← l2]; rfl)
      subst ea
      rw [List.append_nil] at o2
      exact val_of w hk o2 rd
    · obtain ⟨G', w', x', ok, n⟩ := w.newT hl (r1.append r2)
      exact hk _ o2 _ _ _ w' x' ok n
  · rename_i a b
    obtain ⟨o1, o2⟩ := o
    simp only [Rep] at rd re
    obtain ⟨p, vs, rfl, f1, h1, r1⟩ := rd
    obtain ⟨q, ws, rfl, f2, h2, r2⟩ := re
    have l1 := r1.length
    have l2 := r2.length
    refine op_cat pins s σ0 H _ _ v u Q I rx ry ⟨p, q, vs, ws, rfl, rfl, h1, h2, by omega, fun l hl => ?_⟩
    obtain ⟨w', x', ok, n⟩ := w.newL hl (r1.append r2)
    exact hk _ o2 _ _ _ w' x' ok n
  · exact o.elim
end
end L3

namespace L3
open PySem PySem.Spec L2
open PyProof.Rows hiding St
set_option autoImplicit false
variable {K : PySem.W.Frag} {T : Tab}

section
variable {X : Cx} {B : Bs} {W : WX}

/-! ### arithmetic -/
def opI2 (C : Int → Int → Prop) (g : Int → Int → Int) : OpF := fun _ d e k => match d, e with
  | .int i, .int j => C i j ∧ k (.v (.int (g i j)))
  | _, _ => False
def opB2 (g : Int → Int → Bool) : OpF := fun _ d e k => match d, e with
  | .int i, .int j => k (.v (.bl (g i j)))
  | _, _ => False
theorem d_i2 {f : Value → Value → Sem Value} {C : Int → Int → Prop} {g : Int → Int → Int} (h : OpR X f (rI C fun i j => .int (g i j))) : OpD X T f (opI2 C g) := by
  refine ⟨fun B pins s σ0 H x y v u Q I rx ry hh => ?_⟩
  obtain ⟨G, μ, σ, δ, d, e, k, w, rd, re, o, hk⟩ := hh
  unfold opI2 at o
  split at o
  · simp only [Rep] at rd re
    exact h pins s σ0 H x y v u Q I rx ry ⟨_, _, rd, re, o.1, val_of w hk o.2 (by simp only [Rep])⟩
  · exact o.elim
def opSub : OpF := fun _ d e k => match d, e with
  | .int i, .int j => k (.v (.int (i - j)))
  | _, _ => False
theorem d_sub : OpD X T (binaryOp .Sub) opSub := by
  refine ⟨fun B pins s σ0 H x y v u Q I rx ry hh => ?_⟩
  obtain ⟨G, μ, σ, δ, d, e, k, w, rd, re, o, hk⟩ := hh
  unfold opSub at o
  split at o
  · simp only [Rep] at rd re
    exact op_sub pins s σ0 H x y v u Q I rx ry ⟨_, _, rd, re, val_of w hk o (by simp only [Rep])⟩
  · exact o.elim
def opDiv : OpF := opI2 CDiv fun i j => i / j
def opDivW : OpF := opI2 CDivW fun i j => i / j
def opMod : OpF := opI2 (fun _ j => 0 < j) fun i j => i % j
def opPow : OpF := opI2 CPow fun i j => i ^ j.toNat
theorem d_div : OpD X T (binaryOp .FloorDiv) opDiv := d_i2 op_fdiv
theorem d_divW : OpD X T (binaryOp .FloorDiv) opDivW := d_i2 op_fdivW
theorem d_mod : OpD X T (binaryOp .Mod) opMod := d_i2 op_mod
theorem d_pow : OpD X T (binaryOp .Pow) opPow := d_i2 op_pow
/-- a * b: ints, one of them below 2^64; a list so many times -/
def opMul : OpF := fun μ d e k => match d, e with
  | .int i, .int j => CMul i j ∧ k (.v (.int (i * j)))
  | .lst a, .int j => 0 ≤ j ∧ j ≤ 1000000 ∧ a.length * j.toNat ≤ sizeLine ∧ k (.ol (List.replicate j.toNat a).flatten)
  | _, _ => False
theorem RepL.rep {G : Gh} {H : Hp} {a : List D} {vs : List V} (r : RepL K T G H a vs) : ∀ n : Nat, RepL K T G H (List.replicate n a).flatten (List.replicate n vs).flatten
  | 0 => .nil
  | n + 1 => by
    rw [List.replicate_succ, List.replicate_succ, List.flatten_cons, List.flatten_cons]
    exact r.append (RepL.rep r n)
theorem d_mul : OpD X T (binaryOp .Mult) opMul := by
  refine ⟨fun B pins s σ0 H x y v u Q I rx ry hh => ?_⟩
  obtain ⟨G, μ, σ, δ, d, e, k, w, rd, re, o, hk⟩ := hh
  unfold opMul at o
  split at o
  · simp only [Rep] at rd re
    exact op_mul pins s σ0 H x y v u Q I rx ry ⟨_, _, rd, re, o.1, val_of w hk o.2 (by simp only [Rep])⟩
  · obtain ⟨o0, o1, o2, o3⟩ := o
    simp only [Rep] at rd re
    obtain ⟨p, vs, rfl, f1, h1, r1⟩ := rd
    have l1 := r1.length
    refine op_rep pins s σ0 H _ y v u Q I rx ry ⟨p, _, vs, rfl, re, h1, by omega, by omega, by rw [l1]; exact o2, fun l hl => ?_⟩
    obtain ⟨w', x', ok, n⟩ := w.newL hl (r1.rep _)
    exact hk _ o3 _ _ _ w' x' ok n
  · exact o.elim

/-! ### comparisons -/
def opEq : OpF := fun μ d e k => (vw μ d).cmp = true ∧ (vw μ e).cmp = true ∧ min (vw μ d).dep (vw μ e).dep ≤ 64 ∧ k (.v (.bl (deq (vw μ d) (vw μ e))))
def opNe : OpF := fun μ d e k => (vw μ d).cmp = true ∧ (vw μ e).cmp = true ∧ min (vw μ d).dep (vw μ e).dep ≤ 64 ∧ k (.v (.bl (!deq (vw μ d) (vw μ e))))
theorem d_eq (hu : X.A.units + 64 < cLine) : OpD X T (compareOp .Eq) opEq := by
  refine ⟨fun B pins s σ0 H x y v u Q I rx ry hh => ?_⟩
  obtain ⟨G, μ, σ, δ, d, e, k, w, rd, re, ⟨o1, o2, o3, o4⟩, hk⟩ := hh
  obtain ⟨p, e1, q1⟩ := py_of _ o1
  obtain ⟨q, e2, q2⟩ := py_of _ o2
  obtain ⟨h1, c1⟩ := vw_dp w.g rd e1
  obtain ⟨h2, c2⟩ := vw_dp w.g re e2
  obtain ⟨as, r1⟩ := Dp.reads I p x v h1 rx
  obtain ⟨bs, r2⟩ := Dp.reads I q y u h2 ry
  refine SeqAt.compareEq_reads r1 r2 c1 c2 (by rw [q1, q2]; omega) ⟨.bl _, H, I, rfl, ?_⟩
  rw [deq_py _ _ p q e1 e2]
  exact val_of w hk o4 (by simp only [Rep])
theorem d_ne (hu : X.A.units + 64 < cLine) : OpD X T (compareOp .NotEq) opNe := by
  refine ⟨fun B pins s σ0 H x y v u Q I rx ry hh => ?_⟩
  obtain ⟨G, μ, σ, δ, d, e, k, w, rd, re, ⟨o1, o2, o3, o4⟩, hk⟩ := hh
  obtain ⟨p, e1, q1⟩ := py_of _ o1
  obtain ⟨q, e2, q2⟩ := py_of _ o2
  obtain ⟨h1, c1⟩ := vw_dp w.g rd e1
  obtain ⟨h2, c2⟩ := vw_dp w.g re e2
  obtain ⟨as, r1⟩ := Dp.reads I p x v h1 rx
  obtain ⟨bs, r2⟩ := Dp.reads I q y u h2 ry
  refine SeqAt.compareNe_reads r1 r2 c1 c2 (by rw [q1, q2]; omega) ⟨.bl _, H, I, rfl, ?_⟩
  rw [deq_py _ _ p q e1 e2]
  exact val_of w hk o4 (by simp only [Rep])
/-- order of ints and texts -/
def opOrd (g : Int → Int → Bool) (h : List Nat → List Nat → Bool) : OpF := fun _ d e k => match d, e with
  | .int i, .int j => k (.v (.bl (g i j)))
  | .str a, .str b => k (.v (.bl (h a b)))
  | _, _ => False
theorem d_ord {f : Value → Value → Sem Value} {g : Int → Int → Bool} {h : List Nat → List Nat → Bool} (h1 : OpR X f (rI0 fun i j => .bl (g i j))) (h2 : OpR X f (fun x y H Q => ∃ i j : Str, x = .str i ∧ y = .str j ∧ Q (.bl (h i.cps.toList j.cps.toList)) H)) : OpD X T f (opOrd g h) := by
  refine ⟨fun B pins s σ0 H x y v u Q I rx ry hh => ?_⟩
  obtain ⟨G, μ, σ, δ, d, e, k, w, rd, re, o, hk⟩ := hh
  unfold opOrd at o
  split at o
  · simp only [Rep] at rd re
    exact h1 pins s σ0 H x y v u Q I rx ry ⟨_, _, rd, re, val_of w hk o (by simp only [Rep])⟩
  · simp only [Rep] at rd re
    exact h2 pins s σ0 H x y v u Q I rx ry ⟨_, _, rd.1, re.1, val_of w hk o (by simp only [Rep, strOf])⟩
  · exact o.elim
def opLt : OpF := opOrd (fun i j => decide (i < j)) fun a b => decide (a < b)
def opLe : OpF := opOrd (fun i j => decide (i ≤ j)) fun a b => !decide (b < a)
def opGt : OpF := opOrd (fun i j => decide (j < i)) fun a b => decide (b < a)
def opGe : OpF := opOrd (fun i j => decide (j ≤ i)) fun a b => !decide (a < b)
theorem d_lt : OpD X T (compareOp .Lt) opLt := d_ord op_lt op_lt_str
theorem d_le : OpD X T (compareOp .LtE) opLe := d_ord op_le op_le_str
theorem d_gt : OpD X T (compareOp .Gt) opGt := d_ord op_gt op_gt_str
theorem d_ge : OpD X T (compareOp .GtE) opGe := d_ord op_ge op_ge_str
/-- is None -/
def D.isN : D → Bool
  | .non => true
  | _ => false
def D.noCst : D → Bool
  | .cst _ => false
  | _ => true
def opIsN : OpF := fun _ d e k => d.noCst = true ∧ e.isN = true ∧ k (.v (.bl d.isN))
def opNotN : OpF := fun _ d e k => d.noCst = true ∧ e.isN = true ∧ k (.v (.bl (!d.isN)))
theorem isN_rep {G : Gh} {H : Hp} {d : D} {x : V} (r : Rep K T G H d x) (h : d.noCst = true) : decide (x = .non) = d.isN := by
  cases d <;> simp only [Rep] at r
  case non => subst r; rfl
  case cst => cases h
  case bl => subst r; rfl
  case int => subst r; rfl
  case str => obtain ⟨rfl, _⟩ := r; rfl
  all_goals (obtain ⟨a, z⟩ := r; first | (obtain ⟨rfl, _⟩ := z; rfl) | (obtain ⟨_, rfl, _⟩ := z; rfl) | (obtain ⟨_, _, rfl, _⟩ := z; rfl))
theorem d_isN : OpD X T (compareOp .Is) opIsN := by
  refine ⟨fun B pins s σ0 H x y v u Q I rx ry hh => ?_⟩
  obtain ⟨G, μ, σ, δ, d, e, k, w, rd, re, ⟨o1, o2, o3⟩, hk⟩ := hh
  cases e <;> simp only [D.isN, reduceCtorEq] at o2
  simp only [Rep] at re
  exact op_isN pins s σ0 H x y v u Q I rx ry ⟨re, val_of w hk o3 (by simp only [Rep, isN_rep rd o1])⟩
theorem d_notN : OpD X T (compareOp .IsNot) opNotN := by
  refine ⟨fun B pins s σ0 H x y v u Q I rx ry hh => ?_⟩
  obtain ⟨G, μ, σ, δ, d, e, k, w, rd, re, ⟨o1, o2, o3⟩, hk⟩ := hh
  cases e <;> simp only [D.isN, reduceCtorEq] at o2
  simp only [Rep] at re
  exact op_notN pins s σ0 H x y v u Q I rx ry ⟨re, val_of w hk o3 (by simp only [Rep, isN_rep rd o1])⟩
/-! ### dicts -/
def D.dk : D → Option DK
  | .int i => some (.inl i)
  | .str s => some (.inr s)
  | _ => none
def getK : List DK → List D → DK → Option D
  | k :: ks, v :: vs, j => if k = j then some v else getK ks vs j
  | _, _, _ => none
def setK : List DK → List D → DK → D → List D
  | k :: ks, v :: vs, j, w => if k = j then w :: vs else v :: setK ks vs j w
  | _, vs, _, _ => vs
theorem DK.key_inj {a b : DK} (h : a.key = b.key) : a = b := by
  cases a <;> cases b <;> simp only [DK.key, Sum.inl.injEq, Sum.inr.injEq, reduceCtorEq] at h
  · rw [h]
  · rename_i x y
    have e : x.toArray = y.toArray := congrArg Str.cps h
    rw [show x = y by simpa using e]
theorem dk_rep {G : Gh} {H : Hp} {d : D} {x : V} {j : DK} (r : Rep K T G H d x) (h : d.dk = some j) : x = kV j.key := by
  cases d <;> simp only [D.dk, Option.some.injEq, reduceCtorEq] at h
  · subst h; simp only [Rep] at r; exact r
  · subst h; simp only [Rep] at r; exact r.1
theorem getK_valV {G : Gh} {H : Hp} (j : DK) : ∀ {ks : List DK} {vs : List D} {kvs : List (Key × V)}, kvs.map (·.1) = ks.map DK.key → RepL K T G H vs (kvs.map (·.2)) →
    (∀ d, getK ks vs j = some d → ∃ v, valV kvs j.key = some v ∧ Rep K T G H d v) ∧ (getK ks vs j = none → valV kvs j.key = none)
  | [], vs, kvs, h, r => by
    cases kvs with
    | nil => exact ⟨fun d e => by simp [getK] at e, fun _ => rfl⟩
    | cons p l => simp at h
  | k :: ks, vs, kvs, h, r => by
    cases kvs with
    | nil => simp at h
    | cons p l =>
      simp only [List.map_cons, List.cons.injEq] at h r
      cases vs with
      | nil => simp only [RepL] at r; cases r
      | cons v vs =>
        simp only [RepL] at r
        obtain ⟨y, ys, e, r1, r2⟩ := r
        simp only [List.cons.injEq] at e
        obtain ⟨e1, e2⟩ := e
        subst e1; subst e2
        obtain ⟨q1, q2⟩ := getK_valV j h.2 r2
        by_cases hk : k = j
        · have hp : p.1 = j.key := by rw [h.1, hk]
          refine ⟨fun d e => ?_, fun e => ?_⟩
          · simp only [getK, if_pos hk, Option.some.injEq] at e
            subst e
            exact ⟨p.2, valV_pos hp, r1⟩
          · simp only [getK, if_pos hk, reduceCtorEq] at e
        · have hp : ¬ p.1 = j.key := fun z => hk (DK.key_inj (h.1.symm.trans z))
          refine ⟨fun d e => ?_, fun e => ?_⟩
          · simp only [getK, if_neg hk] at e
            rw [valV_neg hp]
            exact q1 d e
          · simp only [getK, if_neg hk] at e
            rw [valV_neg hp]
            exact q2 e
/-- a dict seen -/
def asK (μ : Mu) : D → Option (List DK × List D)
  | .dct ks vs => some (ks, vs)
  | .loc n => match μ[n]? with
    | some (.dct ks vs) => some (ks, vs)
    | _ => none
  | _ => none
theorem asK_of {G : Gh} {μ : Mu} {H : Hp} (w : WfG K T G μ H) {d : D} {ks : List DK} {vs : List D} {x : V} (r : Rep K T G H d x) (h : asK μ d = some (ks, vs)) :
    ∃ a kvs, x = .ref a ∧ H a = some (.dK kvs) ∧ kvs.map (·.1) = ks.map DK.key ∧ RepL K T G H vs (kvs.map (·.2)) := by
  cases d with
  | dct es fs =>
    cases h
    simp only [Rep] at r
    obtain ⟨a, kvs, e, f, h1, h2⟩ := r
    exact ⟨a, kvs, e, h1, h2⟩
  | loc n =>
    simp only [Rep] at r
    obtain ⟨a, e, hn⟩ := r
    simp only [asK] at h
    split at h
    · rename_i es fs hm
      cases h
      obtain ⟨kvs, h1, h2⟩ := w.ce n a _ hn hm
      exact ⟨a, kvs, e, h1, h2⟩
    · cases h
  | _ => cases h

/-- one sign in a text; an item in a list or a tuple; a key in a dict -/
def memD (μ : Mu) (d e : D) : Option Bool := match e with
  | .str z => match d with
    | .str [c] => some (decide (c ∈ z))
    | _ => none
  | .tup ds => if d.cmp && cmpL ds && decide (d.dep ≤ 64) then some (ds.any fun z => deq z d) else none
  | e => match asL μ e with
    | some ds => if d.cmp && cmpL ds && decide (d.dep ≤ 64) then some (ds.any fun z => deq z d) else none
    | none => match asK μ e, d.dk with
      | some (ks, vs), some j => some (getK ks vs j).isSome
      | _, _ => none
def opIn : OpF := fun μ d e k => match memD μ d e with
  | some b => k (.v (.bl b))
  | none => False
def opNotIn : OpF := fun μ d e k => match memD μ d e with
  | some b => k (.v (.bl (!b)))
  | none => False
theorem any_py : ∀ (ds : List D) (ps : List PyData) (d : D) (p : PyData), pyL ds = some ps → d.py = some p → (ps.any fun z => PyData.eqv z p) = ds.any fun z => deq z d
  | [], ps, d, p, h, _ => by cases h; rfl
  | x :: xs, ps, d, p, h, hp => by
    simp only [pyL, Option.bind_eq_some_iff, Option.map_eq_some_iff] at h
    obtain ⟨q, e1, ps', e2, rfl⟩ := h
    rw [List.any_cons, List.any_cons, deq_py x d q p e1 hp, any_py xs ps' d p e2 hp]
/-- what memD tells, for In and NotIn -/
theorem mem_core {G : Gh} {μ : Mu} {σ σ0 : St} {δ : Env'} {H : Hp} {pins : List (Addr × Obj)} {s : Shared} {d e : D} {x y : V} {v u : Value} {b : Bool} {Q : Value → Shared → Prop} (neg : Bool) (hu : X.A.units + 128 < cLine) (w : Wf X.K T B G μ H σ δ) (rd : Rep X.K T G H d x) (re : Rep X.K T G H e y)
    (I : Inv X pins σ0 H s) (rx : RelV x v) (ry : RelV y u) (o : memD μ d e = some b) (h : ∀ s', Inv X pins σ0 H s' → Q (.bool (if neg then !b else b)) s') :
    wpAny (model X.prog X.w) X.A (compareOp (if neg then .NotIn else .In) v u) Q X.xe s := by
  have hEP : ∀ (c : Bool) (H' : Hp), c = (if neg then !b else b) → H' = H → ∀ u s', EP X pins σ0 (fun z H2 => z = V.bl c ∧ H2 = H') u s' → Q u s' := fun c H' hc hH u s' ⟨z, H2, I', r', e1, e2⟩ => by
    subst e1; subst e2; subst hH
    cases r'
    rw [hc]
    exact h s' I'
  have seq : ∀ (ds : List D) (a : Addr) (vs : List V), (SqL X.K H a vs ∨ SqT X.K H a vs) → y = .ref a → RepL X.K T G H ds vs → d.cmp = true → cmpL ds = true → d.dep ≤ 64 → b = (ds.any fun z => deq z d) →
      wpAny (model X.prog X.w) X.A (compareOp (if neg then .NotIn else .In) v u) Q X.xe s := by
    intro ds a vs hs ey r2 c1 c2 c3 hb
    obtain ⟨p, e1, q1⟩ := py_of _ c1
    obtain ⟨ps, e2, q2⟩ := pyL_of _ c2
    obtain ⟨h1, k1⟩ := Rep.dp _ _ _ rd e1
    obtain ⟨h2, k2⟩ := RepL.dp _ _ _ r2 e2
    obtain ⟨as, R1⟩ := Dp.reads I p x v h1 rx
    have room : X.A.units + 1 + min (PyData.depthAll ps) p.depth < cLine := by rw [q1]; omega
    have fin : Q (.bool (if neg then !(ps.any fun z => PyData.eqv z p) else (ps.any fun z => PyData.eqv z p))) s := by
      rw [any_py ds ps d p e2 e1, ← hb]
      exact h s I
    rcases hs with hs | hs
    · obtain ⟨bs, R2⟩ := Dp.reads I (.list ps) y u (by rw [ey]; exact .lst hs h2) ry
      cases neg with
      | true => exact SeqAt.notIn_list_reads R2 R1 k2 k1 room fin
      | false => exact SeqAt.in_list_reads R2 R1 k2 k1 room fin
    · obtain ⟨bs, R2⟩ := Dp.reads I (.tuple ps) y u (by rw [ey]; exact .tup hs h2) ry
      cases neg with
      | true => exact SeqAt.notIn_tuple_reads R2 R1 k2 k1 room fin
      | false => exact SeqAt.in_tuple_reads R2 R1 k2 k1 room fin
  have lst : (∀ z, e ≠ .str z) → (∀ ds, e ≠ .tup ds) → wpAny (model X.prog X.w) X.A (compareOp (if neg then .NotIn else .In) v u) Q X.xe s := by
    intro n1 n2
    have o' : (match asL μ e with
      | some ds => if d.cmp && cmpL ds && decide (d.dep ≤ 64) then some (ds.any fun z => deq z d) else none
      | none => match asK μ e, d.dk with
        | some (ks, vs), some j => some (getK ks vs j).isSome
        | _, _ => none) = some b := by
      cases e
      case str z => exact absurd rfl (n1 z)
      case tup ds => exact absurd rfl (n2 ds)
      all_goals exact o
    cases hl : asL μ e with
    | some ds =>
      rw [hl] at o'
      simp only at o'
      split at o'
      · rename_i hc
        simp only [Bool.and_eq_true, decide_eq_true_eq] at hc
        obtain ⟨a, vs, ey, h1, h2, _⟩ := asL_of w.g re hl
        exact seq ds a vs (.inl h1) ey h2 hc.1.1 hc.1.2 hc.2 (Option.some.inj o').symm
      · cases o'
    | none =>
      rw [hl] at o'
      simp only at o'
      split at o'
      · rename_i ks vs j hk hj
        obtain ⟨a, kvs, ey, h1, h2, h3⟩ := asK_of w.g re hk
        subst ey
        cases (show u = Value.ref a from ry)
        obtain ⟨g1, g2⟩ := getK_valV j h2 h3
        have hb : b = (valV kvs j.key).isSome := by
          rw [← Option.some.inj o']
          cases hg : getK ks vs j with
          | none => rw [g2 hg]; rfl
          | some q => obtain ⟨z, hz, _⟩ := g1 q hg; rw [hz]; rfl
        have g : DGet H a x (valV kvs j.key) := by rw [dk_rep rd hj]; exact .k h1
        cases neg with
        | true => exact d_notIn (by omega) I g rx fun s' I' => by rw [← hb]; exact h s' I'
        | false => exact d_in (by omega) I g rx fun s' I' => by rw [← hb]; exact h s' I'
      · cases o'
  cases e
  case str z =>
    simp only [memD] at o
    split at o
    · rename_i c
      simp only [Rep] at rd re
      have eb : b = decide (c ∈ (strOf z).cps.toList) := by simp only [strOf]; exact (Option.some.inj o).symm
      cases neg with
      | true => exact thn (op_notIn_sign pins s σ0 H x y v u (fun z' H2 => z' = V.bl (!decide (c ∈ (strOf z).cps.toList)) ∧ H2 = H) I rx ry ⟨c, strOf z, rd.1, re.1, rfl, rfl⟩) (hEP _ H (by rw [eb]; rfl) rfl)
      | false => exact thn (op_in_sign pins s σ0 H x y v u (fun z' H2 => z' = V.bl (decide (c ∈ (strOf z).cps.toList)) ∧ H2 = H) I rx ry ⟨c, strOf z, rd.1, re.1, rfl, rfl⟩) (hEP _ H (by rw [eb]; rfl) rfl)
    · cases o
  case tup ds =>
    simp only [memD] at o
    split at o
    · rename_i hc
      simp only [Bool.and_eq_true, decide_eq_true_eq] at hc
      obtain ⟨a, vs, ey, h1, h2⟩ := tup_of re
      exact seq ds a vs (.inr h1) ey h2 hc.1.1 hc.1.2 hc.2 (Option.some.inj o).symm
    · cases o
  all_goals exact lst (by intros; simp) (by intros; simp)
theorem d_inD (hu : X.A.units + 128 < cLine) : OpD X T (compareOp .In) opIn := by
  refine ⟨fun B pins s σ0 H x y v u Q I rx ry hh => ?_⟩
  obtain ⟨G, μ, σ, δ, d, e, k, w, rd, re, o, hk⟩ := hh
  unfold opIn at o
  split at o
  · rename_i b hb
    exact mem_core false hu w rd re I rx ry hb fun s' I' => ⟨.bl b, H, I', rfl, val_of w hk o (by simp only [Rep])⟩
  · exact o.elim
theorem d_notInD (hu : X.A.units + 128 < cLine) : OpD X T (compareOp .NotIn) opNotIn := by
  refine ⟨fun B pins s σ0 H x y v u Q I rx ry hh => ?_⟩
  obtain ⟨G, μ, σ, δ, d, e, k, w, rd, re, o, hk⟩ := hh
  unfold opNotIn at o
  split at o
  · rename_i b hb
    exact mem_core true hu w rd re I rx ry hb fun s' I' => ⟨.bl (!b), H, I', rfl, val_of w hk o (by simp only [Rep])⟩
  · exact o.elim
end
end L3

namespace L3
open PySem PySem.Spec L2
open PyProof.Rows hiding St
set_option autoImplicit false

section
variable {m : Nat} {X : Cx} {T : Tab} {B : Bs} {W : WX} {a b c e o : Expr} {es : List Expr} {pos : Pos}

theorem New.back {G G1 : Gh} {H H1 : Hp} {r : Rv} {v : V} (x : Ext G H G1 H1) (n : New H1 r v) : New H r v := fun h p e => x.none_back (n h p e)

/-! ### names and constants -/
def eName (i : Nat) : Sem' := fun δ μ k _ => match δ[i]? with
  | some (some (.v d)) => k (.v d) μ
  | _ => False
def eC (d : D) : Sem' := fun _ μ k _ => k (.v d) μ
theorem de_var (i : Nat) {x : Str} (h : PE X (.Name x pos) (tVar i)) : DE m X T B W (.Name x pos) (eName i) := QE.weak (qe_of h) fun σ H Q ⟨G, δ, μ, k, xx, w, q, hk, hx⟩ => by
  unfold eName at q
  split at q
  · rename_i d hd
    obtain ⟨v, e1, ok⟩ := w.sl i _ hd
    exact ⟨v, e1, hk _ _ q v G H w w.same ok .v⟩
  · exact q.elim
theorem de_const {d : D} {v : V} (h : PE X e (tC v)) (r : ∀ G H, Rep X.K T G H d v) : DE m X T B W e (eC d) := QE.weak (qe_of h) fun σ H Q ⟨G, δ, μ, k, xx, w, q, hk, hx⟩ =>
  hk _ _ q v G H w w.same (r G H) .v
theorem de_int {i j} : DE m X T B W (.Constant (.int i) j pos) (eC (.int i)) := de_const pe_int fun _ _ => by simp only [Rep]
theorem de_bl {i j} : DE m X T B W (.Constant (.bool i) j pos) (eC (.bl i)) := de_const pe_bl fun _ _ => by simp only [Rep]
theorem de_non {j} : DE m X T B W (.Constant .none j pos) (eC .non) := de_const pe_non fun _ _ => by simp only [Rep]
theorem de_str {x : Str} {s : List Nat} {j} (h : x = strOf s ∧ s.length ≤ 10000 ∧ (s.all fun c => decide (c < 0x110000)) = true) : DE m X T B W (.Constant (.str x) j pos) (eC (.str s)) := de_const pe_str fun _ _ => by
  simp only [Rep]
  refine ⟨by rw [h.1], Nat.le_trans h.2.1 (by rw [sizeLine_eq]; decide), fun c hc => ?_⟩
  simpa using List.all_eq_true.mp h.2.2 c hc
theorem de_cst {v : V} (h : PE X e (tC v)) : DE m X T B W e (eC (.cst v)) := de_const h fun _ _ => by simp only [Rep]
/-- a module's constant -/
theorem de_gint {x : Str} {i : Int} {t : Tok} (hg : Gl X x) (hm : X.mg x = some (.int i t)) (hd : (x == ("__debug__" : Str)) = false := by decide) : DE m X T B W (.Name x pos) (eC (.int i)) :=
  de_const (pe_glob hg hm (v := .int i) ⟨t, rfl⟩ hd) fun _ _ => by simp only [Rep]
theorem de_gstr {x : Str} {y : Str} {s : List Nat} {t : Tok} (hg : Gl X x) (hm : X.mg x = some (.str y t)) (h : y = strOf s ∧ s.length ≤ 10000 ∧ (s.all fun c => decide (c < 0x110000)) = true) (hd : (x == ("__debug__" : Str)) = false := by decide) :
    DE m X T B W (.Name x pos) (eC (.str s)) :=
  de_const (pe_glob hg hm (v := .str y) ⟨t, rfl⟩ hd) fun _ _ => by
    simp only [Rep]
    refine ⟨by rw [h.1], Nat.le_trans h.2.1 (by rw [sizeLine_eq]; decide), fun c hc => ?_⟩
    simpa using List.all_eq_true.mp h.2.2 c hc

/-! ### arguments, displays -/
def aNil : SemA := fun _ μ k _ => k [] μ
def aCons (g : Sem') (t : SemA) : SemA := fun δ μ k x => g δ μ (fun r μ1 => t δ μ1 (fun ds μ2 => k (r.d :: ds) μ2) x) x
theorem da_nil : DA m X T B W [] aNil := QA.weak qa_nil fun σ H Q ⟨G, δ, μ, k, xx, w, q, hk, hx⟩ => hk _ _ q [] G H w w.same .nil
theorem da_cons {g : Sem'} {t : SemA} (h : DV m X T B W e g) (ht : DA m X T B W es t) (hs : starEach (e :: es) X.env = (false, eval e X.env) :: starEach es X.env := by rfl) : DA m X T B W (e :: es) (aCons g t) :=
  QA.weak (qa_cons h ht hs) fun σ H Q ⟨G, δ, μ, k, xx, w, q, hk, hx⟩ =>
    ⟨G, δ, μ, _, xx, w, q, fun r μ1 q1 v1 G1 H1 w1 x1 r1 => ⟨G1, δ, μ1, _, xx, w1, q1, fun ds μ2 q2 vs G2 H2 w2 x2 r2 =>
      hk _ _ q2 _ G2 H2 w2 (x1.trans x2) (.cons (Rep.kp (x2.kp w1.g) _ _ r1) r2), hx⟩, hx⟩
def eTup (t : SemA) : Sem' := fun δ μ k x => t δ μ (fun ds μ1 => ds.length ≤ sizeLine ∧ k (.v (.tup ds)) μ1) x
def eLst (t : SemA) : Sem' := fun δ μ k x => t δ μ (fun ds μ1 => ds.length ≤ sizeLine ∧ k (.ol ds) μ1) x
theorem de_tup {t : SemA} {x1} (h : DA m X T B W es t) : DE m X T B W (.Tuple es x1 pos) (eTup t) := QE.weak (qe_tup h) fun σ H Q ⟨G, δ, μ, k, xx, w, q, hk, hx⟩ =>
  ⟨G, δ, μ, _, xx, w, q, fun ds μ1 q1 vs G1 H1 w1 x1 r1 => ⟨by rw [r1.length]; exact q1.1, fun p hp => by
    obtain ⟨G', w', x', ok, n⟩ := w1.newT hp r1
    exact hk _ _ q1.2 _ _ _ w' (x1.trans x') ok .v⟩, hx⟩
theorem de_lst {t : SemA} (h : DA m X T B W es t) : DE m X T B W (.List es pos) (eLst t) := QE.weak (qe_lst h) fun σ H Q ⟨G, δ, μ, k, xx, w, q, hk, hx⟩ =>
  ⟨G, δ, μ, _, xx, w, q, fun ds μ1 q1 vs G1 H1 w1 x1 r1 => ⟨by rw [r1.length]; exact q1.1, fun p hp => by
    obtain ⟨w', x', ok, n⟩ := w1.newL hp r1
    exact hk _ _ q1.2 _ _ _ w' (x1.trans x') ok (n.back x1)⟩, hx⟩

/-! ### operators -/
def eOp (f : OpF) (g h : Sem') : Sem' := fun δ μ k x => g δ μ (fun r μ1 => h δ μ1 (fun s μ2 => f μ2 r.d s.d fun t => k t μ2) x) x
theorem op_core {f : Value → Value → Sem Value} {o : OpF} {g h : Sem'} {R : R2} (ho : OpD X T f o) (hR : R = fun x y H Q => ∃ G μ σ δ d e k, Wf X.K T B G μ H σ δ ∧ Rep X.K T G H d x ∧ Rep X.K T G H e y ∧ o μ d e k ∧
    ∀ r, k r → ∀ v G' H', Wf X.K T B G' μ H' σ δ → Ext G H G' H' → ErOk X.K T G' H' r v → New H r v → Q v H') {σ : St} {H : Hp} {Q : VK} (q : tE X.K T B W (eOp o g h) σ H Q) : tOp R (tD X.K T B W g) (tD X.K T B W h) σ H Q := by
  obtain ⟨G, δ, μ, k, xx, w, q, hk, hx⟩ := q
  subst hR
  exact ⟨G, δ, μ, _, xx, w, q, fun r μ1 q1 v1 G1 H1 w1 x1 r1 => ⟨G1, δ, μ1, _, xx, w1, q1, fun s μ2 q2 v2 G2 H2 w2 x2 r2 => ⟨G2, μ2, σ, δ, _, _, _, w2, Rep.kp (x2.kp w1.g) _ _ r1, r2, q2, fun t ht v G3 H3 w3 x3 ok n =>
    hk _ _ ht v G3 H3 w3 ((x1.trans x2).trans x3) ok ((n.back x2).back x1)⟩, hx⟩, hx⟩
theorem de_op {op : Operator} {f : OpF} {g h : Sem'} (ho : OpD X T (binaryOp op) f) (ha : DV m X T B W a g) (hb : DV m X T B W b h) : DE m X T B W (.BinOp a op b pos) (eOp f g h) :=
  QE.weak (qe_op (ho.run B) ha hb) fun σ H Q q => op_core ho rfl q
theorem de_cmp {op : CmpOp} {f : OpF} {g h : Sem'} (ho : OpD X T (compareOp op) f) (ha : DV m X T B W a g) (hb : DV m X T B W b h) (hm : behindInMarks op b = false) : DE m X T B W (.Compare a [op] [b] pos) (eOp f g h) :=
  QE.weak (qe_cmpR (ho.run B) ha hb hm) fun σ H Q q => op_core ho rfl q
def b1 (k : Bool → Mu → Prop) : KR := fun r μ => match r with
  | .v (.bl b) => k b μ
  | _ => False
abbrev SemT := Env' → Mu → (Bool → Mu → Prop) → KX → Prop
/-- a truth value as a test -/
def tB (g : Sem') : SemT := fun δ μ k x => g δ μ (b1 k) x
theorem dt_cmp {op : CmpOp} {f : OpF} {g h : Sem'} (ho : OpD X T (compareOp op) f) (ha : DV m X T B W a g) (hb : DV m X T B W b h) (hm : behindInMarks op b = false) : DT m X T B W (.Compare a [op] [b] pos) (tB (eOp f g h)) :=
  QT.weak (qt_cmpR (ho.run B) ha hb hm) fun σ H Q ⟨G, δ, μ, k, xx, w, q, hk, hx⟩ => op_core (g := g) (h := h) (W := W) ho rfl ⟨G, δ, μ, _, xx, w, q, fun r μ1 q1 v G1 H1 w1 x1 ok n => by
    unfold b1 at q1
    split at q1
    · simp only [ErOk, Rep] at ok
      exact ⟨_, ok, hk _ _ q1 G1 H1 w1 x1⟩
    · exact q1.elim, hx⟩
/-- a < b < c -/
def eCh (f f' : OpF) (g h i : Sem') : Sem' := fun δ μ k x => g δ μ (fun r μ1 => h δ μ1 (fun s μ2 => f μ2 r.d s.d fun t => match t with
  | .v (.bl true) => i δ μ2 (fun z μ3 => f' μ3 s.d z.d fun t' => match t' with
    | .v (.bl q) => k (.v (.bl q)) μ3
    | _ => False) x
  | .v (.bl false) => k (.v (.bl false)) μ2
  | _ => False) x) x

/-! ### truth -/
def tru (μ : Mu) : D → Option Bool
  | .non => some false
  | .bl b => some b
  | .int i => some (i != 0)
  | .str s => some (!s.isEmpty)
  | .tup ds => some (!ds.isEmpty)
  | d => match asL μ d with
    | some ds => some (!ds.isEmpty)
    | none => match asK μ d with
      | some (ks, _) => some (!ks.isEmpty)
      | none => none
theorem isEmpty_len {α β : Type} {l : List α} {m : List β} (h : l.length = m.length) : l.isEmpty = m.isEmpty := by
  cases l <;> cases m <;> first | rfl | (simp at h)
theorem tru_of {G : Gh} {μ : Mu} {H : Hp} (w : WfG X.K T G μ H) {d : D} {x : V} {b : Bool} (r : Rep X.K T G H d x) (h : tru μ d = some b) : TruV X.K x H b := by
  have other : ∀ d, Rep X.K T G H d x → (match asL μ d with
    | some ds => some (!ds.isEmpty)
    | none => match asK μ d with
      | some (ks, _) => some (!ks.isEmpty)
      | none => none) = some b → TruV X.K x H b := fun d r h => by
    cases hl : asL μ d with
    | some ds =>
      rw [hl] at h
      obtain ⟨a, vs, rfl, h1, h2, _⟩ := asL_of w r hl
      refine .inl ⟨vs, h1, ?_⟩
      rw [← Option.some.inj h, isEmpty_len h2.length]
    | none =>
      rw [hl] at h
      simp only at h
      split at h
      · rename_i ks vs hk
        obtain ⟨a, kvs, rfl, h1, h2, h3⟩ := asK_of w r hk
        refine .inr (.inr ⟨kvs, h1, ?_⟩)
        have hl := congrArg List.length h2
        simp only [List.length_map] at hl
        rw [← Option.some.inj h, isEmpty_len hl]
      · cases h
  cases d
  case non => simp only [Rep] at r; subst r; exact (Option.some.inj h).symm
  case bl => simp only [Rep] at r; subst r; exact (Option.some.inj h).symm
  case int => simp only [Rep] at r; subst r; exact (Option.some.inj h).symm
  case str s =>
    simp only [Rep] at r
    obtain ⟨rfl, h1, h2⟩ := r
    refine ⟨by rw [strOf_length]; exact h1, ?_⟩
    rw [← Option.some.inj h, strOf_length]
    cases s <;> simp
    omega
  case tup ds =>
    obtain ⟨a, vs, rfl, h1, h2⟩ := tup_of r
    refine .inr (.inl ⟨vs, h1, ?_⟩)
    rw [← Option.some.inj h, isEmpty_len h2.length]
  all_goals exact other _ r h
def tTru (g : Sem') : SemT := fun δ μ k x => g δ μ (fun r μ1 => match tru μ1 r.d with
  | some b => k b μ1
  | none => False) x
theorem dt_tru {g : Sem'} (h : DV m X T B W e g) (he : ∀ whole, isTrue e X.env whole = (do let v ← whole; standAt e.pos; holding [v] (truthy v)) := by intro _; rfl) : DT m X T B W e (tTru g) :=
  QT.weak (qt_truth h he) fun σ H Q ⟨G, δ, μ, k, xx, w, q, hk, hx⟩ => ⟨G, δ, μ, _, xx, w, q, fun r μ1 q1 v G1 H1 w1 x1 ok => by
    split at q1
    · rename_i b hb
      exact ⟨b, tru_of w1.g ok hb, hk _ _ q1 G1 H1 w1 x1⟩
    · exact q1.elim, hx⟩
abbrev DW (m : Nat) (X : Cx) (T : Tab) (B : Bs) (W : WX) (e : Expr) (g : SemT) : Prop := QW m X e (tT X.K T B W g)
theorem DW.pt {g : SemT} (h : DW m X T B W e g) : DT m X T B W e g := QW.qt h
def tAnd' (g h : SemT) : SemT := fun δ μ k x => g δ μ (fun c μ1 => if c = true then h δ μ1 k x else k false μ1) x
def tOr' (g h : SemT) : SemT := fun δ μ k x => g δ μ (fun c μ1 => if c = true then k true μ1 else h δ μ1 k x) x
def tNot' (g : SemT) : SemT := fun δ μ k x => g δ μ (fun c μ1 => k (!c) μ1) x
variable {rest : List Expr}
theorem dw_and1 {g : SemT} (ha : DT m X T B W a g) : DW m X T B W (.BoolOp .And [a] pos) g := qw_and1 ha
theorem dw_or1 {g : SemT} (ha : DT m X T B W a g) : DW m X T B W (.BoolOp .Or [a] pos) g := qw_or1 ha
theorem dw_and {g h : SemT} (ha : DT m X T B W a g) (hb : DW m X T B W (.BoolOp .And (b :: rest) pos) h) : DW m X T B W (.BoolOp .And (a :: b :: rest) pos) (tAnd' g h) :=
  QW.weak (qw_and ha hb) fun σ H Q ⟨G, δ, μ, k, xx, w, q, hk, hx⟩ => ⟨G, δ, μ, _, xx, w, q, fun c μ1 q1 G1 H1 w1 x1 => by
    cases c with
    | true => exact ⟨G1, δ, μ1, k, xx, w1, q1, fun c μ2 q2 G2 H2 w2 x2 => hk _ _ q2 G2 H2 w2 (x1.trans x2), hx⟩
    | false => exact hk _ _ q1 G1 H1 w1 x1, hx⟩
theorem dw_or {g h : SemT} (ha : DT m X T B W a g) (hb : DW m X T B W (.BoolOp .Or (b :: rest) pos) h) : DW m X T B W (.BoolOp .Or (a :: b :: rest) pos) (tOr' g h) :=
  QW.weak (qw_or ha hb) fun σ H Q ⟨G, δ, μ, k, xx, w, q, hk, hx⟩ => ⟨G, δ, μ, _, xx, w, q, fun c μ1 q1 G1 H1 w1 x1 => by
    cases c with
    | false => exact ⟨G1, δ, μ1, k, xx, w1, q1, fun c μ2 q2 G2 H2 w2 x2 => hk _ _ q2 G2 H2 w2 (x1.trans x2), hx⟩
    | true => exact hk _ _ q1 G1 H1 w1 x1, hx⟩
theorem dt_not {g : SemT} (ha : DT m X T B W a g) : DT m X T B W (.UnaryOp .Not a pos) (tNot' g) :=
  QT.weak (qt_not ha) fun σ H Q ⟨G, δ, μ, k, xx, w, q, hk, hx⟩ => ⟨G, δ, μ, _, xx, w, q, fun c μ1 q1 G1 H1 w1 x1 => hk _ _ q1 G1 H1 w1 x1, hx⟩
/-- .. as values: truth values -/
def eAnd (g h : Sem') : Sem' := fun δ μ k x => g δ μ (b1 fun c μ1 => if c = true then h δ μ1 k x else k (.v (.bl false)) μ1) x
def eOr (g h : Sem') : Sem' := fun δ μ k x => g δ μ (b1 fun c μ1 => if c = true then k (.v (.bl true)) μ1 else h δ μ1 k x) x
def eNot (g : Sem') : Sem' := fun δ μ k x => g δ μ (b1 fun c μ1 => k (.v (.bl (!c))) μ1) x
theorem de_one {op} {g : Sem'} (h : DE m X T B W a g) : DE m X T B W (.BoolOp op [a] pos) g := qe_one h
theorem b1_of {k : Bool → Mu → Prop} {r : Rv} {μ : Mu} {G : Gh} {H : Hp} {v : V} (h : b1 k r μ) (ok : Rep X.K T G H r.d v) : ∃ c, v = .bl c ∧ k c μ := by
  unfold b1 at h
  split at h
  · simp only [Rv.d, Rep] at ok; exact ⟨_, ok, h⟩
  · exact h.elim
theorem de_and {g h : Sem'} (ha : DV m X T B W a g) (hb : DE m X T B W (.BoolOp .And (b :: rest) pos) h) : DE m X T B W (.BoolOp .And (a :: b :: rest) pos) (eAnd g h) :=
  QE.weak (qe_and ha hb) fun σ H Q ⟨G, δ, μ, k, xx, w, q, hk, hx⟩ => ⟨G, δ, μ, _, xx, w, q, fun r μ1 q1 v G1 H1 w1 x1 ok => by
    obtain ⟨c, rfl, q1⟩ := b1_of q1 ok
    refine ⟨c, rfl, ?_⟩
    cases c with
    | true => exact ⟨G1, δ, μ1, k, xx, w1, q1, fun c μ2 q2 v G2 H2 w2 x2 ok n => hk _ _ q2 v G2 H2 w2 (x1.trans x2) ok (n.back x1), hx⟩
    | false => exact hk _ _ q1 _ G1 H1 w1 x1 (by simp only [ErOk, Rep]) .v, hx⟩
theorem de_or {g h : Sem'} (ha : DV m X T B W a g) (hb : DE m X T B W (.BoolOp .Or (b :: rest) pos) h) : DE m X T B W (.BoolOp .Or (a :: b :: rest) pos) (eOr g h) :=
  QE.weak (qe_or ha hb) fun σ H Q ⟨G, δ, μ, k, xx, w, q, hk, hx⟩ => ⟨G, δ, μ, _, xx, w, q, fun r μ1 q1 v G1 H1 w1 x1 ok => by
    obtain ⟨c, rfl, q1⟩ := b1_of q1 ok
    refine ⟨c, rfl, ?_⟩
    cases c with
    | false => exact ⟨G1, δ, μ1, k, xx, w1, q1, fun c μ2 q2 v G2 H2 w2 x2 ok n => hk _ _ q2 v G2 H2 w2 (x1.trans x2) ok (n.back x1), hx⟩
    | true => exact hk _ _ q1 _ G1 H1 w1 x1 (by simp only [ErOk, Rep]) .v, hx⟩
theorem de_not {g : Sem'} (ha : DV m X T B W a g) : DE m X T B W (.UnaryOp .Not a pos) (eNot g) :=
  QE.weak (qe_not ha) fun σ H Q ⟨G, δ, μ, k, xx, w, q, hk, hx⟩ => ⟨G, δ, μ, _, xx, w, q, fun r μ1 q1 v G1 H1 w1 x1 ok => by
    obtain ⟨c, rfl, q1⟩ := b1_of q1 ok
    exact ⟨c, rfl, hk _ _ q1 _ G1 H1 w1 x1 (by simp only [ErOk, Rep]) .v⟩, hx⟩
/-- a if t else b -/
def eIf (t : SemT) (g h : Sem') : Sem' := fun δ μ k x => t δ μ (fun c μ1 => if c = true then g δ μ1 k x else h δ μ1 k x) x
theorem de_if {t : SemT} {g h : Sem'} (hc : DT m X T B W c t) (ha : DE m X T B W a g) (hb : DE m X T B W b h) : DE m X T B W (.IfExp c a b pos) (eIf t g h) :=
  QE.weak (qe_ifExp hc ha hb) fun σ H Q ⟨G, δ, μ, k, xx, w, q, hk, hx⟩ => ⟨G, δ, μ, _, xx, w, q, fun c μ1 q1 G1 H1 w1 x1 => by
    cases c with
    | true => exact ⟨G1, δ, μ1, k, xx, w1, q1, fun c μ2 q2 v G2 H2 w2 x2 ok n => hk _ _ q2 v G2 H2 w2 (x1.trans x2) ok (n.back x1), hx⟩
    | false => exact ⟨G1, δ, μ1, k, xx, w1, q1, fun c μ2 q2 v G2 H2 w2 x2 ok n => hk _ _ q2 v G2 H2 w2 (x1.trans x2) ok (n.back x1), hx⟩, hx⟩
/-- a < b < c -/
theorem ch_core {op op' : CmpOp} {f f' : OpF} {g h i : Sem'} (ho : OpD X T (compareOp op) f) (ho' : OpD X T (compareOp op') f') {σ : St} {H : Hp} {Q : VK} (q : tE X.K T B W (eCh f f' g h i) σ H Q) :
    tChain (fun x y H Q => ∃ G μ σ δ d e k, Wf X.K T B G μ H σ δ ∧ Rep X.K T G H d x ∧ Rep X.K T G H e y ∧ f μ d e k ∧ ∀ r, k r → ∀ v G' H', Wf X.K T B G' μ H' σ δ → Ext G H G' H' → ErOk X.K T G' H' r v → New H r v → Q v H')
      (fun x y H Q => ∃ G μ σ δ d e k, Wf X.K T B G μ H σ δ ∧ Rep X.K T G H d x ∧ Rep X.K T G H e y ∧ f' μ d e k ∧ ∀ r, k r → ∀ v G' H', Wf X.K T B G' μ H' σ δ → Ext G H G' H' → ErOk X.K T G' H' r v → New H r v → Q v H')
      (tD X.K T B W g) (tD X.K T B W h) (tD X.K T B W i) σ H Q := by
  obtain ⟨G, δ, μ, k, xx, w, q, hk, hx⟩ := q
  refine ⟨G, δ, μ, _, xx, w, q, fun r μ1 q1 v1 G1 H1 w1 x1 r1 => ⟨G1, δ, μ1, _, xx, w1, q1, fun s μ2 q2 v2 G2 H2 w2 x2 r2 => ⟨G2, μ2, σ, δ, _, _, _, w2, Rep.kp (x2.kp w1.g) _ _ r1, r2, q2, fun t ht v G3 H3 w3 x3 ok n => ?_⟩, hx⟩, hx⟩
  simp only at ht
  split at ht
  · simp only [ErOk, Rep] at ok
    subst ok
    refine ⟨true, rfl, ?_⟩
    refine ⟨G3, δ, μ2, _, xx, w3, ht, fun z μ4 q4 v4 G4 H4 w4 x4 r4 => ⟨G4, μ4, σ, δ, _, _, _, w4, Rep.kp ((x3.trans x4).kp w2.g) _ _ r2, r4, q4, fun t' ht' v G5 H5 w5 x5 ok n => ?_⟩, hx⟩
    split at ht'
    · exact hk _ _ ht' v G5 H5 w5 ((((x1.trans x2).trans x3).trans x4).trans x5) ok .v
    · exact ht'.elim
  · simp only [ErOk, Rep] at ok
    subst ok
    exact ⟨false, rfl, hk _ _ ht _ G3 H3 w3 ((x1.trans x2).trans x3) (by simp only [ErOk, Rep]) .v⟩
  · exact ht.elim
theorem de_chain {op op' : CmpOp} {f f' : OpF} {g h i : Sem'} (ho : OpD X T (compareOp op) f) (ho' : OpD X T (compareOp op') f') (ha : DV m X T B W a g) (hb : DV m X T B W b h) (hc : DV m X T B W c i)
    (hm : lastMarks [op, op'] [b, c] = false := by with_unfolding_all rfl) : DE m X T B W (.Compare a [op, op'] [b, c] pos) (eCh f f' g h i) :=
  QE.weak (qe_chain (ho.run B) (ho'.run B) ha hb hc hm) fun σ H Q q => ch_core ho ho' q
theorem dt_chain {op op' : CmpOp} {f f' : OpF} {g h i : Sem'} (ho : OpD X T (compareOp op) f) (ho' : OpD X T (compareOp op') f') (ha : DV m X T B W a g) (hb : DV m X T B W b h) (hc : DV m X T B W c i)
    (hm : lastMarks [op, op'] [b, c] = false := by with_unfolding_all rfl) : DT m X T B W (.Compare a [op, op'] [b, c] pos) (tB (eCh f f' g h i)) :=
  QT.weak (qt_chain (ho.run B) (ho'.run B) ha hb hc hm) fun σ H Q ⟨G, δ, μ, k, xx, w, q, hk, hx⟩ => ch_core (g := g) (h := h) (i := i) (W := W) ho ho' ⟨G, δ, μ, _, xx, w, q, fun r μ1 q1 v G1 H1 w1 x1 ok n => by
    obtain ⟨c, rfl, q1⟩ := b1_of q1 (X := X) (T := T) (G := G1) (H := H1) (v := v) (by cases r <;> first | exact ok | (simp [b1] at q1))
    exact ⟨c, rfl, hk _ _ q1 G1 H1 w1 x1⟩, hx⟩
end
end L3

namespace L3
open PySem PySem.Spec L2
open PyProof.Rows hiding St
set_option autoImplicit false

section
variable {m : Nat} {X : Cx} {T : Tab} {B : Bs} {W : WX} {a b c e o : Expr} {es : List Expr} {pos : Pos}

/-! ### subscripts -/
def atD (ds : List D) : D → Option D
  | .int n => atI ds n
  | _ => none
def getL (μ : Mu) (d i : D) : Option D := match asL μ d with
  | some ds => atD ds i
  | none => match asK μ d, i.dk with
    | some (ks, vs), some j => getK ks vs j
    | _, _ => none
def atS (s : List Nat) : D → Option D
  | .int n => (atI s n).map fun c => .str [c]
  | _ => none
def getD' (μ : Mu) (d i : D) : Option D := match d with
  | .str s => atS s i
  | .tup ds => atD ds i
  | d => getL μ d i
theorem atD_of {ds : List D} {i z : D} (h : atD ds i = some z) : ∃ n, i = .int n ∧ atI ds n = some z := by
  cases i <;> first | exact ⟨_, rfl, h⟩ | cases h
theorem RepL.atI {K : PySem.W.Frag} {G : Gh} {H : Hp} {ds : List D} {vs : List V} {i : Int} {d : D} (r : RepL K T G H ds vs) (h : L2.atI ds i = some d) : ∃ v, L2.atI vs i = some v ∧ Rep K T G H d v := by
  unfold L2.atI at h ⊢
  rw [r.length]
  cases e : ixN ds.length i with
  | none => rw [e] at h; cases h
  | some j => rw [e] at h; exact r.get h
theorem ix_dict (hu : X.A.units + 1 < cLine) : IxR X (fun x y H Q => ∃ a v, x = .ref a ∧ DGet H a y (some v) ∧ Q v H) := by
  intro value slice pins s σ H x y v u Q I rx ry h hs
  obtain ⟨a, z, rfl, g, q⟩ := h
  cases rx
  have hT := dict_typeIs I g
  unfold subscriptTail
  refine wpAny_bind ?_
  rw [getitemInPython_of_ne hT.not_modules]
  refine wpAny_bind (wpAny_specialOf hT PySem.F.slot_dict_getitem.lookup ?_)
  have fin : wpAny (model X.prog X.w) X.A (subscripted slice false (.ref a) u) (fun r s₃ => wpAny (model X.prog X.w) X.A (letTemporaryGo value (.ref a) r >>= fun _ => pure r) (EP X pins σ Q) X.xe s₃) X.xe s := by
    rw [hs]
    exact wpAny_operating (d_getItem hu I g ry fun w' s3 I3 rw' => wpAny_bind (wpAny_letTemporaryGo (wpAny_pure ⟨z, H, I3, rw', q⟩)))
  first
    | exact wpAny_pure (wpAny_bind fin)
    | exact wpAny_bind (wpAny_pure (wpAny_bind fin))
    | exact wpAny_bind fin
def rGet (K : PySem.W.Frag) : R2 := fun x y H Q => rIx K x y H Q ∨ ∃ a v, x = .ref a ∧ DGet H a y (some v) ∧ Q v H
theorem ix_all (hu : X.A.units + 1 < cLine) : IxR X (rGet X.K) := ix_seq.or (ix_dict hu)
def eGet (g h : Sem') : Sem' := fun δ μ k x => g δ μ (fun r μ1 => h δ μ1 (fun s μ2 => match getD' μ2 r.d s.d with
  | some d => k (.v d) μ2
  | none => False) x) x
theorem get_core {G : Gh} {μ : Mu} {H : Hp} (w : WfG X.K T G μ H) {d i z : D} {x y : V} {Q : VK} (rd : Rep X.K T G H d x) (ri : Rep X.K T G H i y) (h : getD' μ d i = some z) (hq : ∀ v, Rep X.K T G H z v → Q v H) : rGet X.K x y H Q := by
  have lst : getL μ d i = some z → rGet X.K x y H Q := by
    intro h'
    unfold getL at h'
    cases hl : asL μ d with
    | some ds =>
      rw [hl] at h'
      obtain ⟨n, rfl, h'⟩ := atD_of h'
      obtain ⟨a, vs, rfl, h1, h2, _⟩ := asL_of w rd hl
      simp only [Rep] at ri
      obtain ⟨v, e1, e2⟩ := h2.atI h'
      exact .inl (.inl ⟨a, vs, _, v, rfl, ri, h1, e1, hq v e2⟩)
    | none =>
      rw [hl] at h'
      simp only at h'
      split at h'
      · rename_i ks vs j hk hj
        obtain ⟨a, kvs, rfl, h1, h2, h3⟩ := asK_of w rd hk
        obtain ⟨v, e1, e2⟩ := (getK_valV j h2 h3).1 _ h'
        refine .inr ⟨a, v, rfl, ?_, hq v e2⟩
        rw [dk_rep ri hj, ← e1]
        exact .k h1
      · cases h'
  cases d
  case str s =>
    simp only [getD'] at h
    obtain ⟨n, rfl, h⟩ : ∃ n, i = .int n ∧ ((atI s n).map fun c => D.str [c]) = some z := by
      cases i <;> first | exact ⟨_, rfl, h⟩ | cases h
    simp only [Rep] at rd ri
    obtain ⟨rfl, h1, h2⟩ := rd
    obtain ⟨c, hc, rfl⟩ := Option.map_eq_some_iff.mp h
    refine .inl (.inr (.inr ⟨_, _, c, rfl, ri, by rw [strOf_length]; exact h1, by simpa [strOf] using hc, hq _ ?_⟩))
    simp only [Rep]
    have hm : c ∈ s := by
      unfold atI at hc
      obtain ⟨j, _, e⟩ := Option.bind_eq_some_iff.mp hc
      exact List.mem_of_getElem? e
    exact ⟨rfl, by rw [sizeLine_eq]; simp, fun c' hc' => by simp at hc'; subst hc'; exact h2 _ hm⟩
  case tup ds =>
    obtain ⟨n, rfl, h⟩ := atD_of (show atD ds i = some z from h)
    obtain ⟨a, vs, rfl, h1, h2⟩ := tup_of rd
    simp only [Rep] at ri
    obtain ⟨v, e1, e2⟩ := h2.atI h
    exact .inl (.inr (.inl ⟨a, vs, _, v, rfl, ri, h1, e1, hq v e2⟩))
  all_goals exact lst h
theorem de_get {g h : Sem'} (hu : X.A.units + 1 < cLine) (ha : DV m X T B W a g) (hb : DV m X T B W b h) (hs : PlainIx b := by exact fun _ _ => rfl) : DE m X T B W (.Subscript a b pos) (eGet g h) :=
  QE.weak (qe_ix (ix_all hu) ha hb hs) fun σ H Q ⟨G, δ, μ, k, xx, w, q, hk, hx⟩ => ⟨G, δ, μ, _, xx, w, q, fun r μ1 q1 v1 G1 H1 w1 x1 r1 => ⟨G1, δ, μ1, _, xx, w1, q1, fun s μ2 q2 v2 G2 H2 w2 x2 r2 => by
    split at q2
    · rename_i d hd
      exact get_core w2.g (Rep.kp (x2.kp w1.g) _ _ r1) r2 hd fun v ok => hk _ _ q2 v G2 H2 w2 (x1.trans x2) ok .v
    · exact q2.elim, hx⟩, hx⟩

/-! ### slices -/
def cutD {α : Type} (xs : List α) (lo hi : Option Int) : List α := (xs.drop (HT.sIx xs.length 0 lo)).take (HT.sIx xs.length xs.length hi - HT.sIx xs.length 0 lo)
def slD (μ : Mu) (d : D) (lo hi : Option Int) : Option Rv := match d with
  | .str s => some (.v (.str (cutD s lo hi)))
  | .tup ds => some (.v (.tup (cutD ds lo hi)))
  | d => match asL μ d with
    | some ds => some (.ol (cutD ds lo hi))
    | none => none
abbrev SemO := Env' → Mu → (Option Int → Mu → Prop) → KX → Prop
def oNone : SemO := fun _ μ k _ => k none μ
def oSome (g : Sem') : SemO := fun δ μ k x => g δ μ (fun r μ1 => match r with
  | .v (.int i) => k (some i) μ1
  | _ => False) x
def tO (K : PySem.W.Frag) (T : Tab) (B : Bs) (W : WX) (g : SemO) : TO := fun σ H Q => ∃ G δ μ k x, Wf K T B G μ H σ δ ∧ g δ μ k x ∧
  (∀ i μ', k i μ' → ∀ G' H', Wf K T B G' μ' H' σ δ → Ext G H G' H' → Q i H') ∧
  (∀ e μ', x e μ' → ∀ G' H' cls od, Wf K T B G' μ' H' σ δ → ExcOk K T G' H' e cls od → W cls od σ H')
abbrev DO (m : Nat) (X : Cx) (T : Tab) (B : Bs) (W : WX) (e : Option Expr) (g : SemO) : Prop := QO m X e (tO X.K T B W g)
theorem do_none : DO m X T B W none oNone := QO.weak qo_none fun σ H Q ⟨G, δ, μ, k, xx, w, q, hk, hx⟩ => hk _ _ q G H w w.same
theorem do_some {g : Sem'} (h : DE m X T B W e g) : DO m X T B W (some e) (oSome g) := QO.weak (qo_some h) fun σ H Q ⟨G, δ, μ, k, xx, w, q, hk, hx⟩ =>
  ⟨G, δ, μ, _, xx, w, q, fun r μ1 q1 v G1 H1 w1 x1 ok n => by
    split at q1
    · simp only [ErOk, Rep] at ok
      exact ⟨_, ok, hk _ _ q1 G1 H1 w1 x1⟩
    · exact q1.elim, hx⟩
def eSl (g : Sem') (l u : SemO) : Sem' := fun δ μ k x => g δ μ (fun r μ1 => l δ μ1 (fun lo μ2 => u δ μ2 (fun hi μ3 => match slD μ3 r.d lo hi with
  | some t => k t μ3
  | none => False) x) x) x
theorem cutV_eq (vs : List V) (lo hi : Option Int) : cutV vs lo hi = cutD vs lo hi := rfl
theorem RepL.cut {K : PySem.W.Frag} {G : Gh} {H : Hp} {ds : List D} {vs : List V} (r : RepL K T G H ds vs) (lo hi : Option Int) : RepL K T G H (cutD ds lo hi) (cutD vs lo hi) := by
  unfold cutD
  rw [r.length]
  exact (r.drop _).take _
theorem cutD_mem {α : Type} {xs : List α} {lo hi : Option Int} {c : α} (h : c ∈ cutD xs lo hi) : c ∈ xs := List.mem_of_mem_drop (List.mem_of_mem_take h)
theorem cutD_len {α : Type} (xs : List α) (lo hi : Option Int) : (cutD xs lo hi).length ≤ xs.length := by
  unfold cutD
  rw [List.length_take, List.length_drop]
  omega
def rSlAll (K : PySem.W.Frag) : V → Option Int → Option Int → Hp → VK → Prop := fun x lo hi H Q => rSlL K x lo hi H Q ∨ rSlA K x lo hi H Q ∨ rSlS x lo hi H Q
theorem sl_all : SlR X (rSlAll X.K) := sl_list.or (sl_tupA.or sl_str)
theorem de_sl {g : Sem'} {l u : SemO} {lo hi : Option Expr} {p2 : Pos} (he : DV m X T B W e g) (hl : DO m X T B W lo l) (hu : DO m X T B W hi u) : DE m X T B W (.Subscript e (.Slice lo hi none p2) pos) (eSl g l u) :=
  QE.weak (qe_slice sl_all he hl hu) fun σ H Q ⟨G, δ, μ, k, xx, w, q, hk, hx⟩ => ⟨G, δ, μ, _, xx, w, q, fun r μ1 q1 v1 G1 H1 w1 x1 r1 => ⟨G1, δ, μ1, _, xx, w1, q1, fun lo μ2 q2 G2 H2 w2 x2 => ⟨G2, δ, μ2, _, xx, w2, q2, fun hi μ3 q3 G3 H3 w3 x3 => by
    have r3 : Rep X.K T G3 H3 r.d v1 := Rep.kp ((x2.trans x3).kp w1.g) _ _ r1
    have x13 := (x1.trans x2).trans x3
    have lst : (∀ s, r.d ≠ .str s) → (∀ ds, r.d ≠ .tup ds) → rSlAll X.K v1 lo hi H3 Q := by
      intro n1 n2
      have q' : (match (match asL μ3 r.d with
        | some ds => some (Rv.ol (cutD ds lo hi))
        | none => none) with
        | some t => k t μ3
        | none => False) := by
        revert q3
        generalize r.d = d at n1 n2
        cases d
        case str s => exact absurd rfl (n1 s)
        case tup ds => exact absurd rfl (n2 ds)
        all_goals exact fun q => q
      cases hl : asL μ3 r.d with
      | none => rw [hl] at q'; exact q'.elim
      | some ds =>
        rw [hl] at q'
        obtain ⟨a, vs, rfl, h1, h2, _⟩ := asL_of w3.g r3 hl
        refine .inl ⟨a, vs, rfl, h1, fun p hp => ?_⟩
        obtain ⟨w', x', ok, n⟩ := w3.newL hp (h2.cut lo hi)
        exact hk _ _ q' _ _ _ w' (x13.trans x') ok (n.back x13)
    cases hd : r.d
    case str s =>
      rw [hd] at r3 q3
      simp only [Rep] at r3
      obtain ⟨rfl, h1, h2⟩ := r3
      refine .inr (.inr ⟨_, rfl, by rw [strOf_length]; exact h1, ?_⟩)
      have ec : cutS (strOf s) lo hi = strOf (cutD s lo hi) := by simp [cutS, strOf, cutD, Str.length]
      refine hk _ _ q3 _ G3 H3 w3 x13 ?_ .v
      simp only [ErOk, Rep]
      exact ⟨by rw [ec], Nat.le_trans (cutD_len s lo hi) h1, fun c hc => h2 c (cutD_mem hc)⟩
    case tup ds =>
      rw [hd] at r3 q3
      obtain ⟨a, vs, rfl, h1, h2⟩ := tup_of r3
      have hlen := h2.length
      refine .inr (.inl ⟨a, vs, rfl, h1, fun hw => ?_, fun hw p hp => ?_⟩)
      · have ec : cutD ds lo hi = ds := by
          unfold cutD
          rw [← hlen, hw.1, hw.2, hlen]
          simp
        have q3 : k (.v (.tup (cutD ds lo hi))) μ3 := q3
        rw [ec] at q3
        exact hk _ _ q3 _ G3 H3 w3 x13 r3 .v
      · obtain ⟨G', w', x', ok, n⟩ := w3.newT hp (h2.cut lo hi)
        exact hk _ _ q3 _ _ _ w' (x13.trans x') ok .v
    all_goals exact lst (by intros; rw [hd]; simp) (by intros; rw [hd]; simp), hx⟩, hx⟩, hx⟩

/-! ### defs -/
abbrev FSem := List D → Mu → KR → KX → Prop
def spD (K : PySem.W.Frag) (T : Tab) (n : Nat) (f : FSem) : Sp := fun vs H Q E => ∃ G μ ds k x, ds.length = n ∧ WfG K T G μ H ∧ RepL K T G H ds vs ∧ f ds μ k x ∧
  (∀ r μ', k r μ' → ∀ v G' H', WfG K T G' μ' H' → Ext G H G' H' → ErOk K T G' H' r v → New H r v → Q v H') ∧
  (∀ e μ', x e μ' → ∀ G' H' cls od, WfG K T G' μ' H' → Ext G H G' H' → ExcOk K T G' H' e cls od → E cls od H')
def eCall (f : FSem) (t : SemA) : Sem' := fun δ μ k x => t δ μ (fun ds μ1 => f ds μ1 k x) x
theorem call_core {f : FSem} {t : SemA} {n : Nat} {σ : St} {H : Hp} {Q : VK} (hf : ∀ ds μ k x, f ds μ k x → ds.length = n) (q : tE X.K T B W (eCall f t) σ H Q) : tCallS (spD X.K T n f) (WE W) (tA X.K T B W t) σ H Q := by
  obtain ⟨G, δ, μ, k, xx, w, q, hk, hx⟩ := q
  exact ⟨G, δ, μ, _, xx, w, q, fun ds μ1 q1 vs G1 H1 w1 x1 r1 => ⟨G1, μ1, ds, k, xx, hf _ _ _ _ q1, w1.g, r1, q1,
    fun r μ2 q2 v G2 H2 w2 x2 ok n => hk _ _ q2 v G2 H2 (w1.ext x2 w2) (x1.trans x2) ok (n.back x1),
    fun e μ2 q2 G2 H2 cls od w2 x2 ok => hx _ _ q2 G2 H2 cls od (w1.ext x2 w2) ok⟩, hx⟩
section
variable {k : Nat} {f : Addr} {fd : FuncData} {ps : List Str} {x : Str} {p : Pos}
/-- a def of the text by data -/
abbrev FnD (m : Nat) (X : Cx) (T : Tab) (k : Nat) (f : Addr) (fd : FuncData) (ps : List Str) (g : FSem) : Prop := FnM m X.prog X.w X.K X.mg X.base (L2.CX X.prog X.w) k f fd ps (spD X.K T ps.length g)
/-- what a call of a def wants: where its name leads -/
structure At (X : Cx) (x : Str) (f : Addr) (fd : FuncData) (ps : List Str) : Prop where
  mg : X.mg x = some (.ref f)
  kp : PySem.W.keepIn X.K (.ref f) = true
  bd : Binds X.K fd ps []
theorem de_call {n j : Nat} {g : FSem} {t : SemA} (F : FnD n X T j f fd ps g) (hr : RoomG k X.A) (hg : Gl X x) (A : At X x f fd ps) (tk : Takes X W) (hf : ∀ ds μ k x, g ds μ k x → ds.length = ps.length) (ha : DA m X T B W (e :: es) t) (hn : n ≤ m := by omega) (hj : j ≤ k := by omega)
    (hdb : (x == ("__debug__" : Str)) = false := by decide) (he : starEach (e :: es) X.env = (false, eval e X.env) :: starEach es X.env := by rfl) (hpl : (backTo pos (starEach es X.env)).any (·.1) = false := by rfl) :
    DE m X T B W (.Call (.Name x p) (e :: es) [] pos) (eCall g t) :=
  QE.weak (qe_call (F.up hn) (hr.mono hj) hg A.mg A.kp A.bd (fun σ => passAt tk σ) ha hdb he hpl) fun σ H Q q => call_core hf q
theorem de_call0 {n j : Nat} {g : FSem} (F : FnD n X T j f fd ps g) (hr : RoomG k X.A) (hg : Gl X x) (A : At X x f fd ps) (tk : Takes X W) (hf : ∀ ds μ k x, g ds μ k x → ds.length = ps.length) (hn : n ≤ m := by omega) (hj : j ≤ k := by omega)
    (hdb : (x == ("__debug__" : Str)) = false := by decide) : DE m X T B W (.Call (.Name x p) [] [] pos) (eCall g aNil) :=
  QE.weak (qe_call0 (F.up hn) (hr.mono hj) hg A.mg A.kp A.bd (fun σ => passAt tk σ) hdb) fun σ H Q ⟨G, δ, μ, k, xx, w, q, hk, hx⟩ =>
    ⟨G, μ, [], k, xx, hf _ _ _ _ q, w.g, .nil, q, fun r μ2 q2 v G2 H2 w2 x2 ok n => hk _ _ q2 v G2 H2 (w.ext x2 w2) x2 ok n, fun e μ2 q2 G2 H2 cls od w2 x2 ok => hx _ _ q2 G2 H2 cls od (w.ext x2 w2) ok⟩
end
end
end L3

namespace L3
open PySem PySem.Spec L2
open PyProof.Rows hiding St
set_option autoImplicit false

section
variable {m : Nat} {X : Cx} {T : Tab} {B : Bs} {W : WX} {a b c e o : Expr} {es : List Expr} {pos : Pos} {st : Stmt} {rest : List Stmt}

/-! ### slots -/
theorem Wf.set {K : PySem.W.Frag} {Gs G : Gh} {μs μ : Mu} {Hs H : Hp} {σ : St} {δ : Env'} (ws : Wf K T B Gs μs Hs σ δ) (w : Wf K T B G μ H σ δ) {i : Nat} {r : Rv} {v : V} (ok : ErOk K T G H r v) (n : New Hs r v) : Wf K T B G μ H (σ.set i (some v)) (δ.set i (some r)) := by
  have look : ∀ {j : Nat} {r' : Rv}, (δ.set i (some r))[j]? = some (some r') → (j = i ∧ r' = r ∧ i < δ.length) ∨ (j ≠ i ∧ δ[j]? = some (some r')) := fun {j r'} e => by
    by_cases h : j = i
    · subst h
      by_cases hl : j < δ.length
      · rw [List.getElem?_set_self hl] at e
        exact .inl ⟨rfl, by cases e; rfl, hl⟩
      · rw [List.getElem?_eq_none (by simpa using hl)] at e; cases e
    · rw [List.getElem?_set_ne (Ne.symm h)] at e
      exact .inr ⟨h, e⟩
  have at_i : i < δ.length → (σ.set i (some v))[i]? = some (some v) := fun hl => List.getElem?_set_self (by rw [← w.ln]; exact hl)
  have clash : ∀ {j : Nat} {r' : Rv} {p : Addr}, δ[j]? = some (some r') → r'.own = true → σ[j]? = some (some (.ref p)) → r.own = true → v = .ref p → False := fun {j r' p} e o es o' ev => by
    obtain ⟨u, eu, h⟩ := ws.sl j r' e
    rw [es] at eu; cases eu
    obtain ⟨q, o', eq, hq, _⟩ := h.own_some o
    cases eq
    rw [n ‹_› p ev] at hq; cases hq
  refine ⟨w.g, w.x, by simpa using w.ln, fun j r' e => ?_, fun j r' u e eu => ?_, fun j k r1 r2 p e1 e2 o1 o2 s1 s2 => ?_, fun j c vs e => ?_⟩
  · rcases look e with ⟨rfl, rfl, hl⟩ | ⟨hj, e⟩
    · exact ⟨v, at_i hl, ok.rv⟩
    · rw [List.getElem?_set_ne (Ne.symm hj)]
      exact w.sl j r' e
  · rcases look e with ⟨rfl, rfl, hl⟩ | ⟨hj, e⟩
    · rw [at_i hl] at eu; cases eu
      exact n.back ws.x
    · rw [List.getElem?_set_ne (Ne.symm hj)] at eu
      exact w.fr j r' u e eu
  · rcases look e1 with ⟨rfl, rfl, hl⟩ | ⟨hj, f1⟩
    · rcases look e2 with ⟨rfl, rfl, _⟩ | ⟨hk, f2⟩
      · rfl
      · rw [at_i hl] at s1; cases s1
        rw [List.getElem?_set_ne (Ne.symm hk)] at s2
        exact (clash f2 o2 s2 o1 rfl).elim
    · rw [List.getElem?_set_ne (Ne.symm hj)] at s1
      rcases look e2 with ⟨rfl, rfl, hl⟩ | ⟨hk, f2⟩
      · rw [at_i hl] at s2; cases s2
        exact (clash f1 o1 s1 o2 rfl).elim
      · rw [List.getElem?_set_ne (Ne.symm hk)] at s2
        exact w.ds j k r1 r2 p f1 f2 o1 o2 s1 s2
  · rcases look e with ⟨_, hr, _⟩ | ⟨hj, e⟩
    · rw [← hr] at ok; exact ok.elim
    · rw [List.getElem?_set_ne (Ne.symm hj)]; exact w.sf j c vs e
theorem Wf.setV {K : PySem.W.Frag} {G : Gh} {μ : Mu} {H : Hp} {σ : St} {δ : Env'} (w : Wf K T B G μ H σ δ) {i : Nat} {d : D} {v : V} (ok : Rep K T G H d v) : Wf K T B G μ H (σ.set i (some v)) (δ.set i (some (.v d))) := w.set w (r := .v d) ok .v

/-! ### blocks and small statements -/
def sNext : SSem := fun δ μ D => D.nx δ μ
def sSeq (s t : SSem) : SSem := fun δ μ D => s δ μ { D with nx := fun δ' μ' => t δ' μ' D }
theorem dss_nil : DSs m X T B W [] sNext := QSs.weak qss_nil fun Q σ H ⟨G, δ, μ, D, w, q, en⟩ => en.nx _ _ q G H σ w (.refl G H)
theorem dss_cons {s t : SSem} (h1 : DS m X T B W st s) (h2 : DSs m X T B W rest t) : DSs m X T B W (st :: rest) (sSeq s t) := QSs.weak (qss_cons h1 h2) fun Q σ H ⟨G, δ, μ, D, w, q, en⟩ =>
  ⟨G, δ, μ, _, w, q, ⟨fun δ' μ' h G' H' σ' w' k => ⟨G', δ', μ', D, w', h, en.kp k⟩, en.bk, en.ct, en.rt, en.ex⟩⟩
theorem dss_one {s : SSem} (h1 : DS m X T B W st s) : DSs m X T B W [st] s := qss_one h1
def sRet (g : Sem') : SSem := fun δ μ D => g δ μ D.rt fun e μ1 => D.ex e δ μ1
def sRetN : SSem := fun _ μ D => D.rt (.v .non) μ
theorem xs_of {G : Gh} {H : Hp} {D : En} {Q : Ends} {δ : Env'} {σ : St} (en : EnOk X.K T B W G H D Q) : ∀ e μ', D.ex e δ μ' → ∀ G' H' cls od, Wf X.K T B G' μ' H' σ δ → ExcOk X.K T G' H' e cls od → W cls od σ H' :=
  fun e μ' h G' H' cls od w ok => en.ex e δ μ' h G' H' σ cls od w ok
theorem ds_ret {g : Sem'} (h : DE m X T B W e g) : DS m X T B W (.Return (some e) pos) (sRet g) := QS.weak (qs_ret h) fun Q σ H ⟨G, δ, μ, D, w, q, en⟩ =>
  ⟨G, δ, μ, _, _, w, q, fun r μ' hr v G' H' w' x' ok n => en.rt r μ' hr v G' H' w'.g (w.x.trans x') ok (n.back w.x), xs_of en⟩
theorem ds_retN : DS m X T B W (.Return none pos) sRetN := QS.weak (qs_of ps_retN) fun Q σ H ⟨G, δ, μ, D, w, q, en⟩ =>
  en.rt _ _ q _ G H w.g w.x (by simp only [ErOk, Rep]) .v
/-- return of a list of one's own -/
def sRetO (i : Nat) : SSem := fun δ μ D => match δ[i]? with
  | some (some (.ol ds)) => D.rt (.ol ds) μ
  | some (some (.v d)) => D.rt (.v d) μ
  | _ => False
theorem ds_retO (i : Nat) {x : Str} {p2 : Pos} (h : PE X (.Name x p2) (tVar i)) : DS m X T B W (.Return (some (.Name x p2)) pos) (sRetO i) := QS.weak (qs_ret (qe_of h)) fun Q σ H ⟨G, δ, μ, D, w, q, en⟩ => by
  unfold sRetO at q
  split at q
  · rename_i ds hd
    obtain ⟨v, e1, ok⟩ := w.sl i _ hd
    exact ⟨v, e1, en.rt _ _ q v G H w.g w.x ok (w.fr i _ v hd e1)⟩
  · rename_i d hd
    obtain ⟨v, e1, ok⟩ := w.sl i _ hd
    exact ⟨v, e1, en.rt _ _ q v G H w.g w.x ok .v⟩
  · exact q.elim
def sExpr (g : Sem') : SSem := fun δ μ D => g δ μ (fun _ μ1 => D.nx δ μ1) fun e μ1 => D.ex e δ μ1
theorem ds_expr {g : Sem'} (h : DE m X T B W e g) (hs : swapsWith e none pos.line X.env = pure false := by rfl) : DS m X T B W (.Expr e pos) (sExpr g) := QS.weak (qs_expr h hs) fun Q σ H ⟨G, δ, μ, D, w, q, en⟩ =>
  ⟨G, δ, μ, _, _, w, q, fun r μ' hr v G' H' w' x' ok n => en.nx _ _ hr G' H' σ w' (x'.kp w.g), xs_of en⟩
theorem ds_pass : DS m X T B W (.Pass pos) sNext := QS.weak (qs_of ps_pass) fun Q σ H ⟨G, δ, μ, D, w, q, en⟩ => en.nx _ _ q G H σ w (.refl G H)
def sBrk : SSem := fun δ μ D => D.bk δ μ
def sCnt : SSem := fun δ μ D => D.ct δ μ
theorem ds_break : DS m X T B W (.Break pos) sBrk := QS.weak (qs_of ps_break) fun Q σ H ⟨G, δ, μ, D, w, q, en⟩ => en.bk _ _ q G H σ w (.refl G H)
theorem ds_continue : DS m X T B W (.Continue pos) sCnt := QS.weak (qs_of ps_continue) fun Q σ H ⟨G, δ, μ, D, w, q, en⟩ => en.ct _ _ q G H σ w (.refl G H)
def sIf (t : SemT) (s u : SSem) : SSem := fun δ μ D => t δ μ (fun c μ1 => if c = true then s δ μ1 D else u δ μ1 D) fun e μ1 => D.ex e δ μ1
theorem ds_if {t : SemT} {s u : SSem} {xs ys : List Stmt} (hc : DT m X T B W c t) (ha : DSs m X T B W xs s) (hb : DSs m X T B W ys u) : DS m X T B W (.If c xs ys pos) (sIf t s u) := QS.weak (qs_if hc ha hb) fun Q σ H ⟨G, δ, μ, D, w, q, en⟩ =>
  ⟨G, δ, μ, _, _, w, q, fun c μ' hr G' H' w' x' => by
    cases c with
    | true => exact ⟨G', δ, μ', D, w', hr, en.kp (x'.kp w.g)⟩
    | false => exact ⟨G', δ, μ', D, w', hr, en.kp (x'.kp w.g)⟩, xs_of en⟩
def sSet (i : Nat) (g : Sem') : SSem := fun δ μ D => g δ μ (fun r μ1 => D.nx (δ.set i (some r)) μ1) fun e μ1 => D.ex e δ μ1
theorem set_core {i : Nat} {g : Sem'} {Q : Ends} {σ : St} {H : Hp} (q : tS X.K T B W (sSet i g) Q σ H) : tAsg (tE X.K T B W g) (gName i) Q σ H := by
  obtain ⟨G, δ, μ, D, w, q, en⟩ := q
  exact ⟨G, δ, μ, _, _, w, q, fun r μ' hr v G' H' w' x' ok n => en.nx _ _ hr G' H' _ (w.set w' ok n) (x'.kp w.g), xs_of en⟩
theorem ds_set (i : Nat) {x : Str} {p' : Pos} {g : Sem'} (hN : X.N.Nodup) (hi : X.N[i]? = some x) (hx : Loc X.env.scope x) (h : DE m X T B W e g) (hs : swapsWith e (some (.Name x p')) pos.line X.env = pure false := by rfl)
    (hf : X.fn x = true ∨ X.env.scope.names.lookup x = some .local := by first | exact .inl rfl | exact .inr rfl | assumption) : DS m X T B W (.Assign [.Name x p'] e pos) (sSet i g) :=
  QS.weak (qs_set hN hi hx h hs hf) fun Q σ H q => set_core q
/-- a list of one's own is laid down -/
def sFrz (i : Nat) (s : SSem) : SSem := fun δ μ D => match δ[i]? with
  | some (some (.ol ds)) => s (δ.set i (some (.v (.lst ds)))) μ D
  | _ => s δ μ D
theorem frz_core {K : PySem.W.Frag} {G : Gh} {μ : Mu} {H : Hp} {σ : St} {δ : Env'} {i : Nat} {ds : List D} (w : Wf K T B G μ H σ δ) (hd : δ[i]? = some (some (.ol ds))) :
    ∃ G', Wf K T B G' μ H σ (δ.set i (some (.v (.lst ds)))) ∧ Kp G H G' H := by
  obtain ⟨v, e1, p, vs, ev, hp, nf, ni, r⟩ := w.sl i _ hd
  subst ev
  have n := w.fr i _ _ hd e1
  have k : Kp G H ⟨fun a => G.F a ∨ a = p, G.io⟩ H := ⟨fun a f => .inl f, ⟨[], by simp⟩, fun _ _ _ h => h⟩
  have hil : i < δ.length := (List.getElem?_eq_some_iff.mp hd).1
  have look : ∀ {j : Nat} {r' : Rv}, (δ.set i (some (.v (.lst ds))))[j]? = some (some r') → (j = i ∧ r' = .v (.lst ds)) ∨ (j ≠ i ∧ δ[j]? = some (some r')) := fun {j r'} e => by
    by_cases h : j = i
    · subst h
      rw [List.getElem?_set_self hil] at e
      exact .inl ⟨rfl, by cases e; rfl⟩
    · rw [List.getElem?_set_ne (Ne.symm h)] at e
      exact .inr ⟨h, e⟩
  refine ⟨⟨fun a => G.F a ∨ a = p, G.io⟩, ⟨⟨?_, w.g.ln, w.g.nd, ?_, fun n a c e1 e2 => (w.g.ce n a c e1 e2).kp k fun _ h => h⟩, ⟨fun a f => .inl (w.x.fr a f), w.x.io, w.x.keep, w.x.new, ?_, w.x.there⟩, by simpa using w.ln, fun j r' e => ?_, fun j r' u e eu => ?_, fun j j' r1 r2 q e1 e2 o1 o2 s1 s2 => ?_, fun j c vs e => ?_⟩, k⟩
  · rintro a (f | rfl)
    · exact w.g.fz a f
    · exact ⟨_, hp⟩
  · rintro a hi (f | rfl)
    · exact w.g.nf a hi f
    · exact ni hi
  · rintro a (f | rfl)
    · exact w.x.newF a f
    · exact .inr (n rfl _ rfl)
  · rcases look e with ⟨rfl, rfl⟩ | ⟨hj, e⟩
    · refine ⟨_, e1, ?_⟩
      show Rep K T _ H (.lst ds) _
      simp only [Rep]
      exact ⟨p, vs, rfl, .inr rfl, hp, RepL.kp k ds vs r⟩
    · obtain ⟨u, eu, h⟩ := w.sl j r' e
      refine ⟨u, eu, ?_⟩
      have key : ∀ q, r'.own = true → u = .ref q → ¬ G.F q → ¬ (G.F q ∨ q = p) := fun q ho eq nf' f => by
        rcases f with f | rfl
        · exact nf' f
        · subst eq
          exact hj (w.ds j i _ _ _ e hd ho rfl eu e1)
      cases r' with
      | v d => exact Rep.kp k d u h
      | ol es =>
        obtain ⟨q, ws, e2, hq, nf', ni', r'⟩ := h
        exact ⟨q, ws, e2, hq, key q rfl e2 nf', ni', RepL.kp k es ws r'⟩
      | oi c es =>
        obtain ⟨q, dx, fs, e2, hq, nf', ni', e3, r'⟩ := h
        exact ⟨q, dx, fs, e2, hq, key q rfl e2 nf', ni', e3, RepL.kp k es _ r'⟩
  · rcases look e with ⟨rfl, rfl⟩ | ⟨hj, e⟩
    · exact .v
    · exact w.fr j r' u e eu
  · rcases look e1 with ⟨rfl, rfl⟩ | ⟨hj, f1⟩
    · cases o1
    · rcases look e2 with ⟨rfl, rfl⟩ | ⟨hj', f2⟩
      · cases o2
      · exact w.ds j j' r1 r2 q f1 f2 o1 o2 s1 s2
  · rcases look e with ⟨_, h⟩ | ⟨_, e⟩
    · cases h
    · exact w.sf j c _ e
theorem dss_frz (i : Nat) {s : SSem} {sts : List Stmt} (h : DSs m X T B W sts s) : DSs m X T B W sts (sFrz i s) := QSs.weak h fun Q σ H ⟨G, δ, μ, D, w, q, en⟩ => by
  unfold sFrz at q
  split at q
  · rename_i ds hd
    obtain ⟨G', w', k⟩ := frz_core w hd
    exact ⟨G', _, μ, D, w', q, en.kp k⟩
  · exact ⟨G, δ, μ, D, w, q, en⟩
/-- x.append(e), x a list of one's own -/
def sApp (i : Nat) (g : Sem') : SSem := fun δ μ D => match δ[i]? with
  | some (some (.ol ds)) => g δ μ (fun r μ1 => ds.length < sizeLine ∧ D.nx (δ.set i (some (.ol (ds ++ [r.d])))) μ1) fun e μ1 => D.ex e δ μ1
  | _ => False
/-- a list of one's own is written -/
theorem Wf.wrO {K : PySem.W.Frag} {G : Gh} {μ : Mu} {H : Hp} {σ : St} {δ : Env'} (w : Wf K T B G μ H σ δ) {i : Nat} {ds es : List D} {p : Addr} {vs : List V} (hd : δ[i]? = some (some (.ol ds))) (hs : σ[i]? = some (some (.ref p))) (r : RepL K T G H es vs) :
    Wf K T B G μ (upd H p (.lst vs)) σ (δ.set i (some (.ol es))) ∧ Kp G H G (upd H p (.lst vs)) := by
  obtain ⟨v, e1, p', vs', ev, hp, nf, ni, r'⟩ := w.sl i _ hd
  rw [hs] at e1; cases e1
  cases ev
  have n := w.fr i _ _ hd hs
  have nfp : ∀ a, G.F a → a ≠ p := fun a f z => nf (by rw [← z]; exact f)
  have k : Kp G H G (upd H p (.lst vs)) := ⟨fun a f => f, ⟨[], by simp⟩, fun a o f h => by rw [upd_ne (nfp a f)]; exact h⟩
  have hil : i < δ.length := (List.getElem?_eq_some_iff.mp hd).1
  have look : ∀ {j : Nat} {r' : Rv}, (δ.set i (some (.ol es)))[j]? = some (some r') → (j = i ∧ r' = .ol es) ∨ (j ≠ i ∧ δ[j]? = some (some r')) := fun {j r'} e => by
    by_cases h : j = i
    · subst h
      rw [List.getElem?_set_self hil] at e
      exact .inl ⟨rfl, by cases e; rfl⟩
    · rw [List.getElem?_set_ne (Ne.symm h)] at e
      exact .inr ⟨h, e⟩
  have hne : ∀ a, a ∈ G.io → a ≠ p := fun a h z => ni (by rw [← z]; exact h)
  refine ⟨⟨⟨fun a f => ?_, w.g.ln, w.g.nd, w.g.nf, fun m a c e1 e2 => (w.g.ce m a c e1 e2).kp k fun o h => ?_⟩, ⟨w.x.fr, w.x.io, fun a o e h => ?_, w.x.new, w.x.newF, fun a h => ?_⟩, by simpa using w.ln, fun j r' e => ?_, fun j r' u e eu => ?_, fun j j' r1 r2 q e1 e2 o1 o2 s1 s2 => ?_, fun j c vs e => ?_⟩, k⟩
  · obtain ⟨o, e⟩ := w.g.fz a f
    exact ⟨o, by rw [upd_ne (nfp a f)]; exact e⟩
  · rw [upd_ne (hne a (List.mem_of_getElem? e1))]; exact h
  · rw [upd_ne (fun z => by rw [z, n rfl p rfl] at e; cases e)]; exact w.x.keep a o e h
  · obtain ⟨o, e⟩ := w.x.there a h
    exact ⟨o, by rw [upd_ne (hne a (w.x.mem h))]; exact e⟩
  · rcases look e with ⟨rfl, rfl⟩ | ⟨hj, e⟩
    · exact ⟨_, hs, p, vs, rfl, upd_same, nf, ni, RepL.kp k es vs r⟩
    · obtain ⟨u, eu, h⟩ := w.sl j r' e
      refine ⟨u, eu, ?_⟩
      have key : ∀ q, r'.own = true → u = .ref q → q ≠ p := fun q ho eq z => by
        subst z; subst eq
        exact hj (w.ds j i _ _ _ e hd ho rfl eu hs)
      cases r' with
      | v d => exact Rep.kp k d u h
      | ol es' =>
        obtain ⟨q, ws, e2, hq, nf', ni', r'⟩ := h
        exact ⟨q, ws, e2, by rw [upd_ne (key q rfl e2)]; exact hq, nf', ni', RepL.kp k es' ws r'⟩
      | oi c es' =>
        obtain ⟨q, dx, fs, e2, hq, nf', ni', e3, r'⟩ := h
        exact ⟨q, dx, fs, e2, by rw [upd_ne (key q rfl e2)]; exact hq, nf', ni', e3, RepL.kp k es' _ r'⟩
  · rcases look e with ⟨rfl, rfl⟩ | ⟨hj, e⟩
    · rw [hs] at eu; cases eu
      exact fun _ q z => by cases z; exact n rfl _ rfl
    · exact w.fr j r' u e eu
  · rcases look e1 with ⟨rfl, rfl⟩ | ⟨hj, f1⟩
    · rcases look e2 with ⟨rfl, rfl⟩ | ⟨hj', f2⟩
      · rfl
      · exact w.ds _ _ _ _ _ hd f2 rfl o2 s1 s2
    · rcases look e2 with ⟨rfl, rfl⟩ | ⟨hj', f2⟩
      · exact w.ds _ _ _ _ _ f1 hd o1 rfl s1 s2
      · exact w.ds j j' r1 r2 q f1 f2 o1 o2 s1 s2
  · rcases look e with ⟨_, h⟩ | ⟨_, e⟩
    · cases h
    · exact w.sf j c _ e
theorem ds_app (i : Nat) {x : Str} {px p1 p2 : Pos} {g : Sem'} (hx : PE X (.Name x px) (tVar i)) (h : DV m X T B W e g) (hs : starEach (e :: []) X.env = (false, eval e X.env) :: starEach [] X.env := by rfl)
    (hbase : attributeBase (.Name x px) "append" X.env (eval (.Name x px) X.env) = eval (.Name x px) X.env := by rfl) (hline : (p1.endLine == p2.line) = true := by rfl)
    (hfew : ((backTo p2 (starEach (e :: []) X.env)).all (fun x => !x.1) && (backToKw p2 (keywordEach [] X.env)).all (fun x => x.1.isSome)
      && decide ((e :: []).length + ([] : List Keyword).length + (if ([] : List Keyword).isEmpty then 0 else 1) < 30)) = true := by rfl)
    (hsw : swapsWith (.Call (.Attribute (.Name x px) "append" p1) [e] [] p2) none pos.line X.env = pure false := by rfl) :
    DS m X T B W (.Expr (.Call (.Attribute (.Name x px) "append" p1) [e] [] p2) pos) (sApp i g) :=
  QS.weak (qs_expr (qe_bm PySem.F.plainAttrs_list PySem.F.slot_list_append PySem.F.type_list_append mt_append (qe_of hx) (qa_cons h qa_nil hs) hbase hfew hline hs (by rfl)) hsw) fun Q σ H ⟨G, δ, μ, D, w, q, en⟩ => by
    unfold sApp at q
    split at q
    · rename_i ds hd
      obtain ⟨v, e1, ok⟩ := w.sl i _ hd
      obtain ⟨p, vs, rfl, hp, nf, ni, r0⟩ := id ok
      refine ⟨_, e1, .inl ⟨rfl, vs, .of hp⟩, G, δ, μ, _, _, w, q, fun r μ' hr y G1 H1 w1 x1 r1 => ?_, xs_of en⟩
      have hp1 : H1 p = some (.lst vs) := x1.keep p _ hp ni
      have hl := r0.length
      refine ⟨p, vs, y, rfl, rfl, hp1, by rw [hl]; exact hr.1, ?_⟩
      obtain ⟨w2, k2⟩ := w1.wrO hd e1 ((RepL.kp (x1.kp w.g) _ _ r0).append (.one r1))
      exact en.nx _ _ hr.2 _ _ _ w2 ((x1.kp w.g).trans k2)
    · exact q.elim

/-! ### targets -/
abbrev SemG := D → Env' → (Env' → Prop) → Prop
/-- the slots off vs are as they were -/
def Off (vs : List Nat) (σ σ' : St) : Prop := σ'.length = σ.length ∧ ∀ j : Nat, j ∉ vs → σ'[j]? = σ[j]?
theorem Off.refl (vs : List Nat) (σ : St) : Off vs σ σ := ⟨rfl, fun _ _ => rfl⟩
theorem Off.trans {vs : List Nat} {σ σ1 σ2 : St} (a : Off vs σ σ1) (b : Off vs σ1 σ2) : Off vs σ σ2 := ⟨b.1.trans a.1, fun j h => (b.2 j h).trans (a.2 j h)⟩
def tG (K : PySem.W.Frag) (T : Tab) (B : Bs) (vs : List Nat) (t : SemG) : TG := fun v σ H Q => ∃ G μ δ d k, Wf K T B G μ H σ δ ∧ Rep K T G H d v ∧ t d δ k ∧ ∀ δ', k δ' → ∀ σ', Wf K T B G μ H σ' δ' → Off vs σ σ' → Q σ' H
abbrev SemGs := List D → Env' → (Env' → Prop) → Prop
def tGs (K : PySem.W.Frag) (T : Tab) (B : Bs) (ix : List Nat) (t : SemGs) : TGs := fun vs σ H Q => ∃ G μ δ ds k, Wf K T B G μ H σ δ ∧ RepL K T G H ds vs ∧ t ds δ k ∧ ∀ δ', k δ' → ∀ σ', Wf K T B G μ H σ' δ' → Off ix σ σ' → Q σ' H
theorem PG.weak' {X : Cx} {e : Expr} {t t' : TG} (h : PG X e t) (hw : ∀ v σ H Q, t' v σ H Q → t v σ H Q) : PG X e t' := ⟨fun pins s σ H v u Q I r q => h.run pins s σ H v u Q I r (hw v σ H Q q)⟩
theorem PGs.weak' {X : Cx} {e : List Expr} {t t' : TGs} (h : PGs X e t) (hw : ∀ v σ H Q, t' v σ H Q → t v σ H Q) : PGs X e t' := ⟨fun pins s σ H v u Q I r q => h.run pins s σ H v u Q I r (hw v σ H Q q)⟩
abbrev DG (X : Cx) (T : Tab) (B : Bs) (vs : List Nat) (e : Expr) (t : SemG) : Prop := PG X e (tG X.K T B vs t)
abbrev DGs (X : Cx) (T : Tab) (B : Bs) (vs : List Nat) (e : List Expr) (t : SemGs) : Prop := PGs X e (tGs X.K T B vs t)
def gN (i : Nat) : SemG := fun d δ k => k (δ.set i (some (.v d)))
def gNil' : SemGs := fun ds δ k => ds = [] ∧ k δ
def gCons' (t : SemG) (u : SemGs) : SemGs := fun ds δ k => match ds with
  | d :: ds => t d δ fun δ' => u ds δ' k
  | [] => False
def gTup' (n : Nat) (u : SemGs) : SemG := fun d δ k => match d with
  | .tup ds => ds.length = n ∧ u ds δ k
  | _ => False
variable {ix : List Nat}
theorem dg_name (i : Nat) {x : Str} (hN : X.N.Nodup) (hi : X.N[i]? = some x) (hx : Loc X.env.scope x) (hm : i ∈ ix) (hf : X.fn x = true ∨ X.env.scope.names.lookup x = some .local := by first | exact .inl rfl | exact .inr rfl | assumption) : DG X T B ix (.Name x pos) (gN i) :=
  PG.weak' (pg_name hN hi hx hf) fun v σ H Q ⟨G, μ, δ, d, k, w, r, q, hk⟩ => hk _ q _ (w.setV r) ⟨by simp, fun j h => by rw [List.getElem?_set_ne (fun z => h (by rw [← z]; exact hm))]⟩
theorem dgs_nil : DGs X T B ix [] gNil' := PGs.weak' pgs_nil fun v σ H Q ⟨G, μ, δ, d, k, w, r, q, hk⟩ => by
  obtain ⟨rfl, q⟩ := q
  simp only [RepL] at r
  exact ⟨r, hk _ q σ w (.refl _ _)⟩
theorem dgs_cons {t : SemG} {u : SemGs} (h1 : DG X T B ix e t) (h2 : DGs X T B ix es u) (hs : (assignEach (e :: es) X.env).map (·.2) = assign e X.env :: (assignEach es X.env).map (·.2) := by rfl) : DGs X T B ix (e :: es) (gCons' t u) :=
  PGs.weak' (pgs_cons h1 h2 hs) fun v σ H Q ⟨G, μ, δ, ds, k, w, r, q, hk⟩ => by
    cases ds with
    | nil => exact q.elim
    | cons d ds =>
      simp only [RepL] at r
      obtain ⟨y, ys, rfl, r1, r2⟩ := r
      exact ⟨y, ys, rfl, G, μ, δ, d, _, w, r1, q, fun δ' q' σ' w' o' => ⟨G, μ, δ', ds, k, w', r2, q', fun δ2 q2 σ2 w2 o2 => hk _ q2 _ w2 (o'.trans o2)⟩⟩
theorem dg_tup {k : Nat} {u : SemGs} {n : Nat} (hc : X.calm = true) (h : DGs X T B ix es u) (hn : (assignEach es X.env).length = n := by rfl) (hst : (assignEach es X.env).findIdx? (·.1) = none := by rfl) : DG X T B ix (.Tuple es k pos) (gTup' n u) :=
  PG.weak' (pg_tup hc h hn hst) fun v σ H Q ⟨G, μ, δ, d, k, w, r, q, hk⟩ => by
    unfold gTup' at q
    split at q
    · obtain ⟨a, vs, rfl, h1, h2⟩ := tup_of r
      exact ⟨a, vs, rfl, h1, by rw [h2.length]; exact q.1, G, μ, δ, _, k, w, h2, q.2, hk⟩
    · exact q.elim
/-- a, b = e -/
def sTgt (g : Sem') (t : SemG) : SSem := fun δ μ D => g δ μ (fun r μ1 => t r.d δ fun δ' => D.nx δ' μ1) fun e μ1 => D.ex e δ μ1
theorem ds_tgt {tg : Expr} {g : Sem'} {t : SemG} (h : DV m X T B W e g) (hg : DG X T B ix tg t) (hs : swapsWithSole [tg] e pos.line X.env = pure false := by rfl) (hw : swappedStores [tg] e X.env = pure none := by rfl)
    (h1 : (assignEach [tg] X.env).map (·.2) = [assign tg X.env] := by rfl) : DS m X T B W (.Assign [tg] e pos) (sTgt g t) := QS.weak (qs_asg h hg hs hw h1) fun Q σ H ⟨G, δ, μ, D, w, q, en⟩ =>
  ⟨G, δ, μ, _, _, w, q, fun r μ' hr v G' H' w' x' ok => ⟨G', μ', δ, r.d, _, w', ok, hr, fun δ' q' σ' w2 _ => en.nx _ _ q' G' H' σ' w2 (x'.kp w.g)⟩, xs_of en⟩

/-! ### what is walked -/
abbrev SemI := Env' → Mu → (List D → Mu → Prop) → KX → Prop
/-- at turn i it yields the i-th -/
def GoodIt (K : PySem.W.Frag) (T : Tab) (B : Bs) (J : It) (G : Gh) (H : Hp) (ds : List D) : Prop := ∀ (i : Nat) G' μ' H' σ' δ', Wf K T B G' μ' H' σ' δ' → Kp G H G' H' →
  (∀ d, ds[i]? = some d → J.go i H' ∧ ∀ x H'', J.yld i H' x H'' → ∃ G'', Wf K T B G'' μ' H'' σ' δ' ∧ Ext G' H' G'' H'' ∧ Rep K T G'' H'' d x) ∧ (ds.length ≤ i → J.stop i H')
def tI (K : PySem.W.Frag) (T : Tab) (B : Bs) (W : WX) (g : SemI) : TI := fun σ H R => ∃ G δ μ k x, Wf K T B G μ H σ δ ∧ g δ μ k x ∧
  (∀ ds μ', k ds μ' → ∀ J G' H', Wf K T B G' μ' H' σ δ → Ext G H G' H' → GoodIt K T B J G' H' ds → R J H') ∧
  (∀ e μ', x e μ' → ∀ G' H' cls od, Wf K T B G' μ' H' σ δ → ExcOk K T G' H' e cls od → W cls od σ H')
abbrev DI (m : Nat) (X : Cx) (T : Tab) (B : Bs) (W : WX) (tg iter : Expr) (g : SemI) : Prop := QI m X tg iter (tI X.K T B W g)
def iL (g : Sem') : SemI := fun δ μ k x => g δ μ (fun r μ1 => match r.d with
  | .lst ds => k ds μ1
  | .scr ns => k (ns.map .int) μ1
  | _ => False) x
theorem sqL_kp {K : PySem.W.Frag} {G G' : Gh} {H H' : Hp} {a : Addr} {vs : List V} (k : Kp G H G' H') (f : G.F a) (h : Rd H a (.lst vs)) : SqL K H' a vs := .inl (k.rd f h)
theorem good_any {K : PySem.W.Frag} {G : Gh} {H : Hp} {a : Addr} {vs : List V} {ds : List D} (hq : ∀ G' H', Kp G H G' H' → SqL K H' a vs) (r : RepL K T G H ds vs) : GoodIt K T B (Itl K a) G H ds := fun i G' μ' H' σ' δ' w k => by
  have hq := hq G' H' k
  refine ⟨fun d hd => ?_, fun hi => ⟨vs, hq, by rw [r.length]; exact hi⟩⟩
  obtain ⟨v, e1, r1⟩ := r.get hd
  refine ⟨⟨vs, v, hq, e1⟩, fun x H'' y => ?_⟩
  obtain ⟨rfl, y⟩ := y
  have := y vs hq
  rw [e1] at this; cases this
  exact ⟨G', w, w.same, Rep.kp k _ _ r1⟩
theorem good_list {K : PySem.W.Frag} {G : Gh} {H : Hp} {a : Addr} {vs : List V} {ds : List D} (f : G.F a) (h : Rd H a (.lst vs)) (r : RepL K T G H ds vs) : GoodIt K T B (Itl K a) G H ds := fun i G' μ' H' σ' δ' w k => by
  have hq := sqL_kp (K := K) k f h
  refine ⟨fun d hd => ?_, fun hi => ⟨vs, hq, by rw [r.length]; exact hi⟩⟩
  obtain ⟨v, e1, r1⟩ := r.get hd
  refine ⟨⟨vs, v, hq, e1⟩, fun x H'' y => ?_⟩
  obtain ⟨rfl, y⟩ := y
  have := y vs hq
  rw [e1] at this; cases this
  exact ⟨G', w, w.same, Rep.kp k _ _ r1⟩
theorem di_list {tg : Expr} {g : Sem'} (h : DV m X T B W e g) : DI m X T B W tg e (iL g) := QI.weak (qi_list h) fun σ H R ⟨G, δ, μ, k, xx, w, q, hk, hx⟩ => ⟨G, δ, μ, _, xx, w, q, fun r μ1 q1 v G1 H1 w1 x1 ok => by
  split at q1
  · rename_i ds hd
    rw [hd] at ok
    simp only [Rep] at ok
    obtain ⟨a, vs, rfl, f, h1, h2⟩ := ok
    exact ⟨a, rfl, ⟨vs, .of h1⟩, hk _ _ q1 _ G1 H1 w1 x1 (good_list f (.inl h1) h2)⟩
  · rename_i ns hd
    rw [hd] at ok
    simp only [Rep] at ok
    obtain ⟨a, rfl, h1⟩ := ok
    rcases h1 with ⟨f, oo, h1⟩ | h1
    · exact ⟨a, rfl, ⟨_, .inl (.inr ⟨oo, h1⟩)⟩, hk _ _ q1 _ G1 H1 w1 x1 (good_list f (.inr ⟨oo, h1⟩) (.ints ns))⟩
    · exact ⟨a, rfl, ⟨_, .inr h1⟩, hk _ _ q1 _ G1 H1 w1 x1 (good_any (fun _ _ _ => .inr h1) (.ints ns))⟩
  · exact q1.elim, hx⟩
def iT (g : Sem') : SemI := fun δ μ k x => g δ μ (fun r μ1 => match r.d with
  | .tup ds => k ds μ1
  | _ => False) x
theorem di_tup {tg : Expr} {g : Sem'} (h : DV m X T B W e g) : DI m X T B W tg e (iT g) := QI.weak (qi_tup h) fun σ H R ⟨G, δ, μ, k, xx, w, q, hk, hx⟩ => ⟨G, δ, μ, _, xx, w, q, fun r μ1 q1 v G1 H1 w1 x1 ok => by
  split at q1
  · rename_i ds hd
    rw [hd] at ok
    simp only [Rep] at ok
    obtain ⟨a, vs, rfl, h1, h2⟩ := ok
    have hq : ∀ {G' : Gh} {H' : Hp}, Kp G1 H1 G' H' → SqT X.K H' a vs := fun kk => by
      rcases h1 with ⟨f, h1⟩ | h1
      · exact .of (kk.keep a _ f h1)
      · exact .inr h1
    refine ⟨a, rfl, ⟨vs, hq (.refl G1 H1)⟩, hk _ _ q1 _ G1 H1 w1 x1 fun i G' μ' H' σ' δ' w' kk => ⟨fun d hd => ?_, fun hi => ⟨vs, hq kk, by rw [h2.length]; exact hi⟩⟩⟩
    obtain ⟨v, e1, r1⟩ := h2.get hd
    refine ⟨⟨vs, v, hq kk, e1⟩, fun x H'' y => ?_⟩
    obtain ⟨rfl, y⟩ := y
    have := y vs (hq kk)
    rw [e1] at this; cases this
    exact ⟨G', w', w'.same, Rep.kp kk _ _ r1⟩
  · exact q1.elim, hx⟩
def chars (s : List Nat) : List D := s.map fun c => .str [c]
def iS (g : Sem') : SemI := fun δ μ k x => g δ μ (fun r μ1 => match r.d with
  | .str s => k (chars s) μ1
  | _ => False) x
theorem di_str {tg : Expr} {g : Sem'} (h : DV m X T B W e g) : DI m X T B W tg e (iS g) := QI.weak (qi_str h) fun σ H R ⟨G, δ, μ, k, xx, w, q, hk, hx⟩ => ⟨G, δ, μ, _, xx, w, q, fun r μ1 q1 v G1 H1 w1 x1 ok => by
  split at q1
  · rename_i s hd
    rw [hd] at ok
    simp only [Rep] at ok
    obtain ⟨rfl, h1, h2⟩ := ok
    refine ⟨_, rfl, hk _ _ q1 _ G1 H1 w1 x1 fun i G' μ' H' σ' δ' w' kk => ⟨fun d hd => ?_, fun hi => ?_⟩⟩
    · simp only [chars, List.getElem?_map, Option.map_eq_some_iff] at hd
      obtain ⟨c, hc, rfl⟩ := hd
      refine ⟨by show i < (strOf s).cps.size; simp only [strOf, List.size_toArray]; exact (List.getElem?_eq_some_iff.mp hc).1, fun x H'' y => ?_⟩
      obtain ⟨rfl, c', hc', rfl⟩ := y
      have e : c' = c := by
        simp only [strOf, List.getElem?_toArray] at hc'
        rw [hc] at hc'; exact (Option.some.inj hc').symm
      subst e
      refine ⟨G', w', w'.same, ?_⟩
      simp only [Rep]
      exact ⟨rfl, by rw [sizeLine_eq]; simp, fun c'' hm => by simp at hm; subst hm; exact h2 _ (List.mem_of_getElem? hc)⟩
    · show (strOf s).cps.size ≤ i
      simpa [strOf, chars] using hi
  · exact q1.elim, hx⟩
def rangeD (lo hi : Int) : List D := (List.range (hi - lo).toNat).map fun (i : Nat) => D.int (lo + (i : Int))
theorem good_range {K : PySem.W.Frag} {G : Gh} {H : Hp} (lo hi : Int) : GoodIt K T B (Itr lo (hi - lo).toNat) G H (rangeD lo hi) := fun i G' μ' H' σ' δ' w k => by
  refine ⟨fun d hd => ?_, fun h => ?_⟩
  · simp only [rangeD, List.getElem?_map, Option.map_eq_some_iff] at hd
    obtain ⟨j, hj, rfl⟩ := hd
    obtain ⟨hl, e⟩ := List.getElem?_eq_some_iff.mp hj
    rw [List.length_range] at hl
    rw [List.getElem_range] at e
    subst e
    refine ⟨hl, fun x H'' y => ?_⟩
    obtain ⟨rfl, rfl⟩ := y
    exact ⟨G', w, w.same, by simp only [Rep]⟩
  · show (hi - lo).toNat ≤ i
    simpa [rangeD] using h
def iR1 (t : SemA) : SemI := fun δ μ k x => t δ μ (fun ds μ1 => match ds with
  | [.int n] => -(2 ^ 62) ≤ n ∧ n < 2 ^ 62 ∧ k (rangeD 0 n) μ1
  | _ => False) x
def iR2 (t : SemA) : SemI := fun δ μ k x => t δ μ (fun ds μ1 => match ds with
  | [.int m, .int n] => (-(2 ^ 62) ≤ m ∧ m < 2 ^ 62 ∧ -(2 ^ 62) ≤ n ∧ n < 2 ^ 62) ∧ k (rangeD m n) μ1
  | _ => False) x
theorem repL1 {K : PySem.W.Frag} {G : Gh} {H : Hp} {d : D} {vs : List V} (h : RepL K T G H [d] vs) : ∃ v, vs = [v] ∧ Rep K T G H d v := by
  simp only [RepL] at h
  obtain ⟨y, ys, rfl, h1, rfl⟩ := h
  exact ⟨y, rfl, h1⟩
theorem repL2 {K : PySem.W.Frag} {G : Gh} {H : Hp} {d e : D} {vs : List V} (h : RepL K T G H [d, e] vs) : ∃ v u, vs = [v, u] ∧ Rep K T G H d v ∧ Rep K T G H e u := by
  simp only [RepL] at h
  obtain ⟨y, ys, rfl, h1, z, zs, rfl, h2, rfl⟩ := h
  exact ⟨y, z, rfl, h1, h2⟩
theorem di_range1 {tg : Expr} {t : SemA} {p : Pos} (hg : Gl X "range") (hm : X.mg "range" = none) (ha : DA m X T B W [a] t) (hs : starEach [a] X.env = [(false, eval a X.env)] := by rfl) : DI m X T B W tg (.Call (.Name "range" p) [a] [] pos) (iR1 t) :=
  QI.weak (qi_range1 hg hm ha hs) fun σ H R ⟨G, δ, μ, k, xx, w, q, hk, hx⟩ => ⟨G, δ, μ, _, xx, w, q, fun ds μ1 q1 vs G1 H1 w1 x1 ok => by
    split at q1
    · obtain ⟨v, rfl, r⟩ := repL1 ok
      simp only [Rep] at r
      have e := good_range (K := X.K) (T := T) (B := B) (G := G1) (H := H1) 0 (by assumption)
      rw [Int.sub_zero] at e
      exact ⟨_, by rw [r], q1.1, q1.2.1, hk _ _ q1.2.2 _ G1 H1 w1 x1 e⟩
    · exact q1.elim, hx⟩
theorem di_range2 {tg : Expr} {t : SemA} {p : Pos} (hg : Gl X "range") (hm : X.mg "range" = none) (ha : DA m X T B W [a, b] t) (hs : starEach [a, b] X.env = [(false, eval a X.env), (false, eval b X.env)] := by rfl)
    (hs2 : starEach [b] X.env = [(false, eval b X.env)] := by rfl) : DI m X T B W tg (.Call (.Name "range" p) [a, b] [] pos) (iR2 t) :=
  QI.weak (qi_range2 hg hm ha hs hs2) fun σ H R ⟨G, δ, μ, k, xx, w, q, hk, hx⟩ => ⟨G, δ, μ, _, xx, w, q, fun ds μ1 q1 vs G1 H1 w1 x1 ok => by
    split at q1
    · obtain ⟨v, u, rfl, r, r'⟩ := repL2 ok
      simp only [Rep] at r r'
      exact ⟨_, _, by rw [r, r'], q1.1, hk _ _ q1.2 _ G1 H1 w1 x1 (good_range _ _)⟩
    · exact q1.elim, hx⟩

/-! ### for, while -/
def forS (t : SemG) (s : SSem) : List D → SSem
  | [] => fun δ μ D => D.nx δ μ
  | d :: ds => fun δ μ D => t d δ fun δ1 => s δ1 μ { D with nx := fun δ' μ' => forS t s ds δ' μ' D, ct := fun δ' μ' => forS t s ds δ' μ' D, bk := D.nx }
def sFor (it : SemI) (t : SemG) (s : SSem) : SSem := fun δ μ D => it δ μ (fun ds μ1 => forS t s ds δ μ1 D) fun e μ1 => D.ex e δ μ1
theorem drop_get {α : Type} {l : List α} {i : Nat} {d : α} {r : List α} (h : l.drop i = d :: r) : l[i]? = some d ∧ l.drop (i + 1) = r := by
  have h1 : i < l.length := by
    rcases Nat.lt_or_ge i l.length with z | z
    · exact z
    · rw [List.drop_of_length_le z] at h; cases h
  rw [List.drop_eq_getElem_cons h1] at h
  simp only [List.cons.injEq] at h
  exact ⟨by rw [List.getElem?_eq_getElem h1, h.1], h.2⟩
theorem ds_for {tg iter : Expr} {it : SemI} {t : SemG} {s : SSem} {body : List Stmt} (hp : PassesOwn (model X.prog X.w) X.A X.env X.xe) (hc : X.calm = true) (hi : DI m X T B W tg iter it) (hg : DG X T B ix tg t) (hb : DSs m X T B W body s)
    (hs : ∀ x, foldedSetIterable iter X.env x = pure x := by intro _; rfl) : DS m X T B W (.For tg iter body [] pos) (sFor it t s) := QS.weak (qs_for hp hc hi hg hb hs) fun Q σ H ⟨G, δ, μ, D, w, q, en⟩ =>
  ⟨G, δ, μ, _, _, w, q, fun ds μ1 q1 J G1 H1 w1 x1 good => by
    have en1 := en.kp (x1.kp w.g)
    refine ⟨fun i m σ H => m = ds.length - i ∧ i ≤ ds.length ∧ ∃ G δ μ, Wf X.K T B G μ H σ δ ∧ Kp G1 H1 G H ∧ forS t s (ds.drop i) δ μ D, ⟨_, rfl, Nat.zero_le _, G1, δ, μ1, w1, .refl G1 H1, by rw [List.drop_zero]; exact q1⟩, ?_⟩
    rintro i m σ2 H2 ⟨rfl, hi, G2, δ2, μ2, w2, k2, f2⟩
    have gd := good i G2 μ2 H2 σ2 δ2 w2 k2
    cases e : ds.drop i with
    | nil =>
      rw [e] at f2
      have hl : ds.length ≤ i := by
        have := congrArg List.length e
        rw [List.length_drop] at this
        simp at this
        omega
      exact .inl ⟨gd.2 hl, en1.nx _ _ f2 G2 H2 σ2 w2 k2⟩
    | cons d r =>
      rw [e] at f2
      obtain ⟨hd, hr⟩ := drop_get e
      obtain ⟨go, yl⟩ := gd.1 d hd
      have hil := (List.getElem?_eq_some_iff.mp hd).1
      refine .inr ⟨go, fun σ' H' => i + 1 ≤ ds.length ∧ ∃ G δ μ, Wf X.K T B G μ H' σ' δ ∧ Kp G1 H1 G H' ∧ forS t s (ds.drop (i + 1)) δ μ D, fun σ' H' n => ⟨_, by omega, rfl, n.1, n.2⟩, fun x H' y => ?_⟩
      obtain ⟨G3, w3, x3, r3⟩ := yl x H' y
      have k3 := k2.trans (x3.kp w2.g)
      refine ⟨G3, μ2, δ2, d, _, w3, r3, f2, fun δ' q' σ' w' _ => ⟨G3, δ', μ2, _, w', q', ?_⟩⟩
      rw [← hr] at *
      exact ⟨fun δ'' μ'' h G' H' σ' w' k' => ⟨hil, G', δ'', μ'', w', k3.trans k', h⟩, fun δ'' μ'' h G' H' σ' w' k' => en1.nx _ _ h G' H' σ' w' (k3.trans k'), fun δ'' μ'' h G' H' σ' w' k' => ⟨hil, G', δ'', μ'', w', k3.trans k', h⟩, en.rt, en.ex⟩, xs_of en⟩
def whileN (t : SemT) (s : SSem) : Nat → SSem
  | 0 => fun _ _ _ => False
  | n + 1 => fun δ μ D => t δ μ (fun c μ1 => if c = true then s δ μ1 { D with nx := fun δ' μ' => whileN t s n δ' μ' D, ct := fun δ' μ' => whileN t s n δ' μ' D, bk := D.nx } else D.nx δ μ1) fun e μ1 => D.ex e δ μ1
def sWhile (t : SemT) (s : SSem) : SSem := fun δ μ D => ∃ n, whileN t s n δ μ D
theorem ds_while {t : SemT} {s : SSem} {body : List Stmt} (hp : PassesOwn (model X.prog X.w) X.A X.env X.xe) (hc : DT m X T B W c t) (hb : DSs m X T B W body s) : DS m X T B W (.While c body [] pos) (sWhile t s) := QS.weak (qs_while hp hc hb) fun Q σ H ⟨G, δ, μ, D, w, ⟨n, q⟩, en⟩ => by
  refine ⟨fun m σ' H' => ∃ G' δ μ, Wf X.K T B G' μ H' σ' δ ∧ Kp G H G' H' ∧ whileN t s m δ μ D, ⟨n, G, δ, μ, w, .refl G H, q⟩, ?_⟩
  rintro m σ2 H2 ⟨G2, δ2, μ2, w2, k2, f2⟩
  cases m with
  | zero => exact f2.elim
  | succ m =>
    refine ⟨G2, δ2, μ2, _, _, w2, f2, fun b μ3 q3 G3 H3 w3 x3 => ?_, xs_of en⟩
    have k3 := k2.trans (x3.kp w2.g)
    cases b with
    | false => exact iteF (en.nx _ _ q3 G3 H3 _ w3 k3)
    | true =>
      refine iteT ⟨fun σ' H' => ∃ G' δ μ, Wf X.K T B G' μ H' σ' δ ∧ Kp G H G' H' ∧ whileN t s m δ μ D, fun σ' H' h => ⟨m, Nat.lt_succ_self m, h⟩, G3, δ2, μ3, _, w3, q3, ?_⟩
      exact ⟨fun δ'' μ'' h G' H' σ' w' k' => ⟨G', δ'', μ'', w', k3.trans k', h⟩, fun δ'' μ'' h G' H' σ' w' k' => en.nx _ _ h G' H' σ' w' (k3.trans k'), fun δ'' μ'' h G' H' σ' w' k' => ⟨G', δ'', μ'', w', k3.trans k', h⟩, en.rt, en.ex⟩
end
end L3

namespace L3
open PySem PySem.Spec L2
open PyProof.Rows hiding St
set_option autoImplicit false

/-! ### a def's body -/
def fnS (n m : Nat) (body : SSem) : FSem := fun ds μ k x => ds.length = n ∧ body (ds.map (fun d => some (.v d)) ++ List.replicate (m - n) none) μ { nx := fun _ μ' => k (.v .non) μ', rt := k, ex := fun e _ μ' => x e μ' }
theorem fnS_len {n m : Nat} {body : SSem} : ∀ ds μ k x, fnS n m body ds μ k x → ds.length = n := fun _ _ _ _ h => h.1
section
variable {P : Program} {w : World} {K : PySem.W.Frag} {mg : Str → Option Value} {base : Heap} {T : Tab}
theorem start_wf {B : Bs} {μ : Mu} {N : List Str} {ds : List D} {vs : List V} {n : Nat} (g : WfG K T B.G μ B.H) (r : RepL K T B.G B.H ds vs) (hn : ds.length = n) (hl : n ≤ N.length) :
    Wf K T B B.G μ B.H (L2.start N vs) (ds.map (fun d => some (.v d)) ++ List.replicate (N.length - n) none) := by
  have el := r.length
  have look : ∀ {i : Nat} {q : Rv}, (ds.map (fun d => some (Rv.v d)) ++ List.replicate (N.length - n) none)[i]? = some (some q) → ∃ d, q = .v d ∧ ds[i]? = some d := fun {i q} e => by
    by_cases h : i < ds.length
    · rw [List.getElem?_append_left (by simpa using h), List.getElem?_map] at e
      cases hd : ds[i]? with
      | none => rw [hd] at e; cases e
      | some d => rw [hd] at e; cases e; exact ⟨d, rfl, rfl⟩
    · rw [List.getElem?_append_right (by simpa using h), List.getElem?_replicate] at e
      split at e <;> cases e
  refine ⟨g, .refl g, ?_, fun i q e => ?_, fun i q v e _ => ?_, fun i j q q' p e _ o _ _ _ => ?_, fun i c vs e => ?_⟩
  · unfold L2.start
    simp only [List.length_append, List.length_map, List.length_replicate]
    omega
  · obtain ⟨d, rfl, hd⟩ := look e
    obtain ⟨v, e1, r1⟩ := r.get hd
    refine ⟨v, ?_, r1⟩
    unfold L2.start
    have hi := (List.getElem?_eq_some_iff.mp e1).1
    rw [List.getElem?_append_left (by simpa using hi), List.getElem?_map, e1]
    rfl
  · obtain ⟨d, rfl, _⟩ := look e
    exact .v
  · obtain ⟨d, rfl, _⟩ := look e
    cases o
  · obtain ⟨d, h, _⟩ := look e
    cases h
/-- THE RULE for a def by data -/
theorem fn_ok {m : Nat} {x qual : Str} {st : Stmt} {f : Addr} {fd : FuncData} {N ps : List Str} {k : Nat} {body : SSem} (F : Fun K x qual st f fd) (S : FnScope N ps (defScope st))
    (hbody : ∀ (cdv : Value) (A : Around) (outer : List PySem.Env) (s : Shared) (H : Hp) (E : XK) (B : Bs), RoomG k (cxOf (L2.CX P w) P w K mg base N qual (defScope st) f cdv A outer s H E).A → Takes (cxOf (L2.CX P w) P w K mg base N qual (defScope st) f cdv A outer s H E) (fun cls d _ H => E cls d H) →
      PassesOwn (model P w) (cxOf (L2.CX P w) P w K mg base N qual (defScope st) f cdv A outer s H E).A (cxOf (L2.CX P w) P w K mg base N qual (defScope st) f cdv A outer s H E).env (cxOf (L2.CX P w) P w K mg base N qual (defScope st) f cdv A outer s H E).xe →
      DSs m (cxOf (L2.CX P w) P w K mg base N qual (defScope st) f cdv A outer s H E) T B (fun cls d _ H => E cls d H) (defBody st) body) : FnM m P w K mg base (L2.CX P w) (k + 1) f fd ps (spD K T ps.length (fnS ps.length N.length body)) := by
  refine fn_m F S (fun vs H Q E h => ?_) (fun cdv A outer s H vs Q E hr h => ?_)
  · obtain ⟨G, μ, ds, k, x, hn, w, r, _⟩ := h
    rw [r.length]; exact hn
  · obtain ⟨G, μ, ds, k, x, hn, w, r, q, hk, hx⟩ := h
    have hpl : ps.length ≤ N.length := by have := congrArg List.length S.pre; rw [List.length_take] at this; omega
    refine ⟨_, hbody cdv A outer s H E ⟨G, H, 0⟩ hr (takes_of rfl rfl rfl rfl) (passes_of rfl), G, _, μ, _, start_wf (B := ⟨G, H, 0⟩) w r hn hpl, q.2, ⟨?_, ?_, ?_, ?_, ?_⟩⟩
    · exact fun δ' μ' h G' H' σ' w' _ => hk _ _ h _ G' H' w'.g w'.x (by simp only [ErOk, Rep]) .v
    · exact fun δ' μ' h => h.elim
    · exact fun δ' μ' h => h.elim
    · exact fun r μ' h v G' H' w' x' ok n => hk _ _ h v G' H' w' x' ok n
    · exact fun e δ μ h G' H' σ' cls od w' ok => hx _ _ h G' H' cls od w'.g w'.x ok
end

section
variable {m : Nat} {X : Cx} {T : Tab} {B : Bs} {W : WX} {a b c e o : Expr} {es : List Expr} {pos : Pos}

/-! ### list comprehensions -/
/-- the slots of the block's own names forgotten -/
def wipeD (δ : Env') : List Nat → Env'
  | [] => δ
  | v :: vs => (wipeD δ vs).set v none
theorem wipeD_len (δ : Env') : ∀ vs, (wipeD δ vs).length = δ.length
  | [] => rfl
  | v :: vs => by unfold wipeD; rw [List.length_set, wipeD_len δ vs]
theorem wipeD_some {δ : Env'} {i : Nat} {r : Rv} : ∀ {vs : List Nat}, (wipeD δ vs)[i]? = some (some r) → δ[i]? = some (some r) ∧ i ∉ vs
  | [], h => ⟨h, by simp⟩
  | v :: vs, h => by
    unfold wipeD at h
    by_cases hi : v = i
    · subst hi
      by_cases hv : v < (wipeD δ vs).length
      · rw [List.getElem?_set_self hv] at h; cases h
      · rw [List.getElem?_eq_none (by simpa using hv)] at h; cases h
    · rw [List.getElem?_set_ne hi] at h
      obtain ⟨h1, h2⟩ := wipeD_some h
      exact ⟨h1, by simp only [List.mem_cons, not_or]; exact ⟨fun e => hi e.symm, h2⟩⟩
theorem Wf.wipe {K : PySem.W.Frag} {G : Gh} {μ : Mu} {H : Hp} {σ : St} {δ : Env'} (w : Wf K T B G μ H σ δ) (vs : List Nat) : Wf K T B G μ H (L2.wipe σ vs) (wipeD δ vs) := by
  have at_ : ∀ {i : Nat} {r : Rv}, (wipeD δ vs)[i]? = some (some r) → (L2.wipe σ vs)[i]? = σ[i]? ∧ δ[i]? = some (some r) := fun {i r} e => by
    obtain ⟨h1, h2⟩ := wipeD_some e
    exact ⟨wipe_out h2, h1⟩
  refine ⟨w.g, w.x, by rw [wipeD_len, wipe_length]; exact w.ln, fun i r e => ?_, fun i r v e ev => ?_, fun i j r r' p e e' o o' s s' => ?_, fun i c vs e => ?_⟩
  · obtain ⟨h1, h2⟩ := at_ e
    rw [h1]; exact w.sl i r h2
  · obtain ⟨h1, h2⟩ := at_ e
    rw [h1] at ev; exact w.fr i r v h2 ev
  · obtain ⟨h1, h2⟩ := at_ e
    obtain ⟨h3, h4⟩ := at_ e'
    rw [h1] at s; rw [h3] at s'
    exact w.ds i j r r' p h2 h4 o o' s s'
  · obtain ⟨h1, h2⟩ := at_ e
    rw [h1]; exact w.sf i c vs h2
theorem wipe_in {σ : St} {i : Nat} : ∀ {vs : List Nat}, i ∈ vs → (L2.wipe σ vs)[i]? = if i < σ.length then some none else none
  | v :: vs, h => by
    unfold L2.wipe
    by_cases hi : v = i
    · subst hi
      by_cases hl : v < σ.length
      · rw [if_pos hl, List.getElem?_set_self (by rw [wipe_length]; exact hl)]
      · rw [if_neg hl, List.getElem?_eq_none (by rw [List.length_set, wipe_length]; omega)]
    · rw [List.getElem?_set_ne hi]
      exact wipe_in ((List.mem_cons.mp h).resolve_left fun z => hi z.symm)
theorem wipe_off {vs : List Nat} {σ σ2 : St} (o : Off vs (L2.wipe σ vs) σ2) : L2.wipe σ2 vs = L2.wipe σ vs := by
  have hl : σ2.length = σ.length := by rw [o.1, wipe_length]
  refine List.ext_getElem? fun i => ?_
  by_cases h : i ∈ vs
  · rw [wipe_in h, wipe_in h, hl]
  · rw [wipe_out h, o.2 i h]
def tYes' : SemT := fun _ μ k _ => k true μ
abbrev DPs (X : Cx) (T : Tab) (B : Bs) (W : WX) (ifs : List Expr) (g : SemT) : Prop := PTs X ifs (tT X.K T B W g)
theorem PTs.weak' {X : Cx} {e : List Expr} {t t' : TT} (h : PTs X e t) (hw : ∀ σ H Q, t' σ H Q → t σ H Q) : PTs X e t' := ⟨fun pins s σ H Q I q => h.run pins s σ H Q I (hw σ H Q q)⟩
theorem dps_nil : DPs X T B W [] tYes' := PTs.weak' pts_nil fun σ H Q ⟨G, δ, μ, k, x, w, q, hk, hx⟩ => hk _ _ q G H w w.same
theorem dps_one {g : SemT} (h : DT 0 X T B W c g) : DPs X T B W [c] g := pts_one h.pt
abbrev W0 : WX := fun _ _ _ _ => False
/-- the block's loop: the list so far -/
def lcS (t : SemG) (tt : SemT) (g : Sem') : List D → Env' → Mu → List D → (List D → Mu → Prop) → Prop
  | [], _, μ, acc, k => k acc μ
  | d :: ds, δ, μ, acc, k => t d δ fun δ1 => tt δ1 μ (fun c μ1 => if c = true then g δ1 μ1 (fun r μ2 => acc.length < sizeLine ∧ lcS t tt g ds δ μ2 (acc ++ [r.d]) k) (fun _ _ => False) else lcS t tt g ds δ μ1 acc k) fun _ _ => False
def eLc (it : SemI) (t : SemG) (tt : SemT) (g : Sem') (vs : List Nat) : Sem' := fun δ μ k x => it δ μ (fun ds μ1 => lcS t tt g ds (wipeD δ vs) μ1 [] fun acc μ2 => k (.ol acc) μ2) x
theorem Wf.wrT {K : PySem.W.Frag} {Gs G : Gh} {μs μ : Mu} {Hs H : Hp} {σ : St} {δ : Env'} {ds es : List D} {p : Addr} {vs : List V} (ws : Wf K T B Gs μs Hs σ δ) (w : Wf K T B G μ H σ δ) (x : Ext Gs Hs G H) (ok : ErOk K T G H (.ol ds) (.ref p)) (n : Hs p = none) (r : RepL K T G H es vs) :
    Wf K T B G μ (upd H p (.lst vs)) σ δ ∧ Ext Gs Hs G (upd H p (.lst vs)) ∧ ErOk K T G (upd H p (.lst vs)) (.ol es) (.ref p) := by
  obtain ⟨p', vs', ev, hp, nf, ni, r'⟩ := ok
  cases ev
  have nfp : ∀ a, G.F a → a ≠ p := fun a f z => nf (by rw [← z]; exact f)
  have nip : ∀ a, a ∈ G.io → a ≠ p := fun a f z => ni (by rw [← z]; exact f)
  have k : Kp G H G (upd H p (.lst vs)) := ⟨fun a f => f, ⟨[], by simp⟩, fun a o f h => by rw [upd_ne (nfp a f)]; exact h⟩
  have x' : Ext Gs Hs G (upd H p (.lst vs)) := ⟨x.fr, x.io, fun a o e h => by rw [upd_ne (fun z => by rw [z, n] at e; cases e)]; exact x.keep a o e h, x.new, x.newF, fun a h => by
    obtain ⟨o, e⟩ := x.there a h
    exact ⟨o, by rw [upd_ne (nip a (x.mem h))]; exact e⟩⟩
  refine ⟨⟨⟨fun a f => ?_, w.g.ln, w.g.nd, w.g.nf, fun m a c e1 e2 => (w.g.ce m a c e1 e2).kp k fun o h => ?_⟩, ws.x.trans x', w.ln, fun j q e => ?_, w.fr, w.ds, w.sf⟩, x', ⟨p, vs, rfl, upd_same, nf, ni, RepL.kp k es vs r⟩⟩
  · obtain ⟨o, e⟩ := w.g.fz a f
    exact ⟨o, by rw [upd_ne (nfp a f)]; exact e⟩
  · rw [upd_ne (nip a (List.mem_of_getElem? e1))]; exact h
  · obtain ⟨u, eu, h⟩ := w.sl j q e
    refine ⟨u, eu, ?_⟩
    have key : ∀ a, q.own = true → u = .ref a → a ≠ p := fun a ho eq z => by
      obtain ⟨u', eu', h'⟩ := ws.sl j q e
      rw [eu] at eu'; cases eu'
      obtain ⟨a', o', ea, ha, _⟩ := h'.own_some ho
      rw [eq] at ea; cases ea
      rw [z, n] at ha; cases ha
    cases q with
    | v d => exact Rep.kp k d u h
    | ol es' =>
      obtain ⟨q, ws', e2, hq, nf', ni', r'⟩ := h
      exact ⟨q, ws', e2, by rw [upd_ne (key q rfl e2)]; exact hq, nf', ni', RepL.kp k es' ws' r'⟩
    | oi c es' =>
      obtain ⟨q, dx, fs, e2, hq, nf', ni', e3, r'⟩ := h
      exact ⟨q, dx, fs, e2, by rw [upd_ne (key q rfl e2)]; exact hq, nf', ni', e3, RepL.kp k es' _ r'⟩
theorem lc_reads {wi : SemI} {t : SemG} {tt : SemT} {g : Sem'} {vs : List Nat} {σ : St} {H : Hp} {Q : VK} (q : tE X.K T B W (eLc wi t tt g vs) σ H Q) :
    tLc (tI X.K T B W wi) (tG X.K T B vs t) (tT X.K T B W0 tt) (tD X.K T B W0 g) vs σ H Q := by
  obtain ⟨G, δ, μ, k, x, w, q, hk, hx⟩ := q
  refine ⟨G, δ, μ, _, x, w, q, fun ds μ1 q1 J G1 H1 w1 x1 good A hA => ?_, hx⟩
  obtain ⟨w1', x1', ok1, _⟩ := w1.newL hA (ds := []) (vs := []) .nil
  refine ⟨fun i m H2 => m = ds.length - i ∧ i ≤ ds.length ∧ ∃ G2 μ2 acc, Wf X.K T B G2 μ2 H2 σ δ ∧ Ext G1 H1 G2 H2 ∧ ErOk X.K T G2 H2 (.ol acc) (.ref A) ∧ lcS t tt g (ds.drop i) (wipeD δ vs) μ2 acc fun acc μ2 => k (.ol acc) μ2,
    ⟨_, rfl, Nat.zero_le _, G1, μ1, [], w1', x1', ok1, by rw [List.drop_zero]; exact q1⟩, ?_⟩
  rintro i m H2 ⟨rfl, hi, G2, μ2, acc, w2, x2, ok2, f2⟩
  have gd := good i G2 μ2 H2 _ _ (w2.wipe vs) (x2.kp w1.g)
  cases e : ds.drop i with
  | nil =>
    rw [e] at f2
    have hl : ds.length ≤ i := by
      have := congrArg List.length e
      rw [List.length_drop] at this
      simp at this
      omega
    refine .inl ⟨gd.2 hl, hk _ _ f2 _ G2 H2 w2 (x1.trans x2) ok2 fun _ p ep => ?_⟩
    cases ep
    exact x1.none_back hA
  | cons d r =>
    rw [e] at f2
    obtain ⟨hd, hr⟩ := drop_get e
    obtain ⟨go, yl⟩ := gd.1 d hd
    have hil := (List.getElem?_eq_some_iff.mp hd).1
    refine .inr ⟨go, fun H' => ∃ G2 μ2 acc, Wf X.K T B G2 μ2 H' σ δ ∧ Ext G1 H1 G2 H' ∧ ErOk X.K T G2 H' (.ol acc) (.ref A) ∧ lcS t tt g (ds.drop (i + 1)) (wipeD δ vs) μ2 acc fun acc μ2 => k (.ol acc) μ2,
      fun H' n => ⟨_, by omega, rfl, hil, n⟩, fun y H' hy => ?_⟩
    obtain ⟨G3, w3, x3, r3⟩ := yl y H' hy
    refine ⟨G3, μ2, wipeD δ vs, d, _, w3, r3, f2, fun δ' q' σ' w' o' => ⟨wipe_off o', G3, δ', μ2, _, _, w', q', fun b μ4 q4 G4 H4 w4 x4 => ?_, fun e' _ z => z.elim⟩⟩
    have x24 := x3.trans x4
    have wσ4 : Wf X.K T B G4 μ4 H4 σ δ := w2.ext x24 w4.g
    cases b with
    | false => exact iteF ⟨G4, μ4, acc, wσ4, x2.trans x24, ok2.ext w2.g x24, by rw [hr]; exact q4⟩
    | true =>
      refine iteT ⟨G4, δ', μ4, _, _, w4, q4, fun s μ5 q5 v5 G5 H5 w5 x5 r5 => ?_, fun e' _ z => z.elim⟩
      have x25 := x24.trans x5
      have wσ5 : Wf X.K T B G5 μ5 H5 σ δ := w2.ext x25 w5.g
      have ok5 := ok2.ext w2.g x25
      obtain ⟨A', vs5, eA, hA5, nf5, ni5, rr5⟩ := id ok5
      cases eA
      obtain ⟨w6, x6, ok6⟩ := Wf.wrT w1 wσ5 (x2.trans x25) ok5 hA (rr5.append (.one r5))
      exact ⟨vs5, hA5, by rw [rr5.length]; exact q5.1, G5, μ5, _, w6, x6, ok6, by rw [hr]; exact q5.2⟩
theorem de_lc {elt tg iter : Expr} {ifs : List Expr} {scope : Scope} {own : List (Str × Nat)} {vs : List Nat} {it : SemI} {t : SemG} {tt : SemT} {g : Sem'} (hc : X.calm = true) (hN : X.N.Nodup) (hi : DI 0 X T B W tg iter it) (ok : BlkOk X.N X.env.scope scope own) (hv : own.map (·.2) = vs)
    (hg : ∀ (s : Shared) (H : Hp) (C : Addr) (cl : List (Str × Addr)) (fp : List Addr), DG (X.blk s H scope (compEnvC scope cl C X.env) fp) T B vs tg t)
    (ht : ∀ (s : Shared) (H : Hp) (C : Addr) (cl : List (Str × Addr)) (fp : List Addr), DPs (X.blk s H scope (compEnvC scope cl C X.env) fp) T B W0 ifs tt)
    (he : ∀ (s : Shared) (H : Hp) (C : Addr) (cl : List (Str × Addr)) (fp : List Addr), DV 0 (X.blk s H scope (compEnvC scope cl C X.env) fp) T B W0 elt g) (hs : ∀ x, foldedSetIterable iter X.env x = pure x := by intro _; rfl) :
    DE m X T B W (.ListComp elt [⟨tg, iter, ifs, 0⟩] scope pos) (eLc it t tt g vs) := by
  subst hv
  exact QE.weak (qe_of (pe_lc hc hN hi.pi ok hg ht (fun s H C cl fp => (he s H C cl fp).pe) hs)) fun σ H Q q => lc_reads q
/-- y = [..] -/
theorem ds_setLc {i : Nat} {y : Str} {py spos : Pos} {elt tg iter : Expr} {ifs : List Expr} {scope : Scope} {own : List (Str × Nat)} {vs : List Nat} {it : SemI} {t : SemG} {tt : SemT} {g : Sem'} (hc : X.calm = true) (hN : X.N.Nodup) (hy : X.N[i]? = some y) (hyl : X.env.scope.names.lookup y = some .local)
    (hsw : swapsWith (.ListComp elt [⟨tg, iter, ifs, 0⟩] scope pos) (some (.Name y py)) spos.line X.env = pure true) (hi : DI 0 X T B W tg iter it) (ok : BlkOk X.N X.env.scope scope own) (hv : own.map (·.2) = vs)
    (hg : ∀ (s : Shared) (H : Hp) (C : Addr) (cl : List (Str × Addr)) (fp : List Addr), DG (X.blk s H scope (compEnvC scope cl C X.env) fp) T B vs tg t)
    (ht : ∀ (s : Shared) (H : Hp) (C : Addr) (cl : List (Str × Addr)) (fp : List Addr), DPs (X.blk s H scope (compEnvC scope cl C X.env) fp) T B W0 ifs tt)
    (he : ∀ (s : Shared) (H : Hp) (C : Addr) (cl : List (Str × Addr)) (fp : List Addr), DV 0 (X.blk s H scope (compEnvC scope cl C X.env) fp) T B W0 elt g) (hs : ∀ x, foldedSetIterable iter X.env x = pure x := by intro _; rfl) :
    DS m X T B W (.Assign [.Name y py] (.ListComp elt [⟨tg, iter, ifs, 0⟩] scope pos) spos) (sSet i (eLc it t tt g vs)) := by
  subst hv
  refine QS.weak (qs_of (ps_setLc (g := tG X.K T B (own.map (·.2)) t) (tt := tT X.K T B W0 tt) (te := tD X.K T B W0 g) hc hN hy hyl hsw hi.pi ok hg ht (fun s H C cl fp => (he s H C cl fp).pe) hs)) fun Q σ H ⟨G, δ, μ, D, w, q, en⟩ => ?_
  exact lc_reads (g := g) ⟨G, δ, μ, _, _, w, q, fun r μ' hr v G' H' w' x' ok n => en.nx _ _ hr G' H' _ (w.set w' ok n) (x'.kp w.g), xs_of en⟩
end
end L3

namespace L3
open PySem PySem.Spec L2
open PyProof.Rows hiding St
set_option autoImplicit false

section
variable {m : Nat} {X : Cx} {T : Tab} {B : Bs} {W : WX} {a b c e o : Expr} {es : List Expr} {pos : Pos}

/-! ### calls of built-in defs and types -/
abbrev CallF := Mu → List D → (Rv → Prop) → Prop
structure CallD (X : Cx) (T : Tab) (f : Value) (o : CallF) : Prop where
  run : ∀ (B : Bs), CallR X f fun xs H Q => ∃ G μ σ δ ds k, Wf X.K T B G μ H σ δ ∧ RepL X.K T G H ds xs ∧ o μ ds k ∧
    ∀ r, k r → ∀ v G' H', Wf X.K T B G' μ H' σ δ → Ext G H G' H' → ErOk X.K T G' H' r v → New H r v → Q v H'
def eFn (o : CallF) (t : SemA) : Sem' := fun δ μ k x => t δ μ (fun ds μ1 => o μ1 ds fun r => k r μ1) x
theorem fn_core {f : Value} {o : CallF} {t : SemA} {r : List V → Hp → VK → Prop} (hr : r = fun xs H Q => ∃ G μ σ δ ds k, Wf X.K T B G μ H σ δ ∧ RepL X.K T G H ds xs ∧ o μ ds k ∧
    ∀ r, k r → ∀ v G' H', Wf X.K T B G' μ H' σ δ → Ext G H G' H' → ErOk X.K T G' H' r v → New H r v → Q v H') {σ : St} {H : Hp} {Q : VK} (q : tE X.K T B W (eFn o t) σ H Q) : tCB r (tA X.K T B W t) σ H Q := by
  subst hr
  obtain ⟨G, δ, μ, k, xx, w, q, hk, hx⟩ := q
  exact ⟨G, δ, μ, _, xx, w, q, fun ds μ1 q1 vs G1 H1 w1 x1 r1 => ⟨G1, μ1, σ, δ, ds, _, w1, r1, q1, fun r h v G2 H2 w2 x2 ok n => hk _ _ h v G2 H2 w2 (x1.trans x2) ok (n.back x1)⟩, hx⟩
variable {x : Str} {p : Pos} {id ty : String} {o : CallF} {t : SemA}
theorem qe_callB {r : List V → Hp → VK → Prop} {t : TA} (hc : CallR X (.builtin id) r) (hg : Gl X x) (hm : X.mg x = none) (hv : bootBuiltins x = some (.builtin id)) (ha : QA m X (e :: es) t) (hn : x ≠ "__name__" := by decide) (hdb : (x == ("__debug__" : Str)) = false := by decide)
    (he : starEach (e :: es) X.env = (false, eval e X.env) :: starEach es X.env := by rfl) (hpl : (backTo pos (starEach es X.env)).any (·.1) = false := by rfl) : QE m X (.Call (.Name x p) (e :: es) [] pos) (tCB r t) :=
  ⟨fun pins z σ H Y hz I q => wpAny_Call_Name_kw (ld_blt I hg hm hv (PyProof.Rows.callWith_builtin1 (thm hz (ha.run pos pins z σ H _ hz I q) fun us z1 _ ⟨vs, H1, I1, r1, q1⟩ => hc pins z1 σ H1 vs us Y I1 r1 q1) he hpl) hn hdb)⟩
theorem qe_callTy {r : List V → Hp → VK → Prop} {t : TA} (hc : CallR X (.type ty) r) (hg : Gl X x) (hm : X.mg x = none) (hv : bootBuiltins x = some (.type ty)) (ha : QA m X (e :: es) t) (hn : x ≠ "__name__" := by decide) (hdb : (x == ("__debug__" : Str)) = false := by decide)
    (he : starEach (e :: es) X.env = (false, eval e X.env) :: starEach es X.env := by rfl) (hpl : (backTo pos (starEach es X.env)).any (·.1) = false := by rfl) : QE m X (.Call (.Name x p) (e :: es) [] pos) (tCB r t) :=
  ⟨fun pins z σ H Y hz I q => wpAny_Call_Name_kw (ld_blt I hg hm hv (PyProof.Rows.callWith_type1 (thm hz (ha.run pos pins z σ H _ hz I q) fun us z1 _ ⟨vs, H1, I1, r1, q1⟩ => hc pins z1 σ H1 vs us Y I1 r1 q1) he hpl) hn hdb)⟩
theorem de_bf (hc : CallD X T (.builtin id) o) (hg : Gl X x) (hm : X.mg x = none) (hv : bootBuiltins x = some (.builtin id)) (ha : DA m X T B W (e :: es) t) (hn : x ≠ "__name__" := by decide) (hdb : (x == ("__debug__" : Str)) = false := by decide)
    (he : starEach (e :: es) X.env = (false, eval e X.env) :: starEach es X.env := by rfl) (hpl : (backTo pos (starEach es X.env)).any (·.1) = false := by rfl) : DE m X T B W (.Call (.Name x p) (e :: es) [] pos) (eFn o t) :=
  QE.weak (qe_callB (hc.run B) hg hm hv ha hn hdb he hpl) fun σ H Q q => fn_core (f := .builtin id) rfl q
theorem de_bt (hc : CallD X T (.type ty) o) (hg : Gl X x) (hm : X.mg x = none) (hv : bootBuiltins x = some (.type ty)) (ha : DA m X T B W (e :: es) t) (hn : x ≠ "__name__" := by decide) (hdb : (x == ("__debug__" : Str)) = false := by decide)
    (he : starEach (e :: es) X.env = (false, eval e X.env) :: starEach es X.env := by rfl) (hpl : (backTo pos (starEach es X.env)).any (·.1) = false := by rfl) : DE m X T B W (.Call (.Name x p) (e :: es) [] pos) (eFn o t) :=
  QE.weak (qe_callTy (hc.run B) hg hm hv ha hn hdb he hpl) fun σ H Q q => fn_core (f := .type ty) rfl q

/-! #### len -/
def lenD (μ : Mu) : D → Option Nat
  | .str s => some s.length
  | .tup ds => some ds.length
  | d => (asL μ d).map (·.length)
def cLen : CallF := fun μ ds k => match ds with
  | [d] => match lenD μ d with
    | some n => k (.v (.int n))
    | none => False
  | _ => False
theorem d_len : CallD X T (.builtin "len") cLen := by
  refine ⟨fun B pins z σ0 H xs us Q I rx ⟨G, μ, σ, δ, ds, k, w, r, o, hk⟩ => ?_⟩
  unfold cLen at o
  split at o
  · rename_i d
    obtain ⟨v, ev, rd⟩ := repL1 r
    subst ev
    split at o
    · rename_i n hn
      have fin : ∀ j : Nat, j = n → Q (.int j) H := fun j e => by subst e; exact val_of w hk o (by simp only [Rep])
      have other : (asL μ d).map (·.length) = some n → wpAny (model X.prog X.w) X.A (call (.builtin "len") us) (EP X pins σ0 Q) X.xe z := fun h => by
        obtain ⟨l, hl, e⟩ := Option.map_eq_some_iff.mp h
        obtain ⟨a, vs, rfl, h1, h2, _⟩ := asL_of w.g rd hl
        exact call_len pins z σ0 H _ us Q I rx ⟨_, n, rfl, .inl ⟨vs, h1, by rw [h2.length]; exact e.symm⟩, fin _ rfl⟩
      cases d
      case str s =>
        simp only [Rep] at rd
        obtain ⟨rfl, h1, h2⟩ := rd
        simp only [lenD, Option.some.injEq] at hn
        exact call_len pins z σ0 H _ us Q I rx ⟨_, n, rfl, ⟨by rw [strOf_length]; exact h1, by rw [strOf_length]; exact hn.symm⟩, fin _ rfl⟩
      case tup l =>
        obtain ⟨a, vs, rfl, h1, h2⟩ := tup_of rd
        simp only [lenD, Option.some.injEq] at hn
        exact call_len pins z σ0 H _ us Q I rx ⟨_, n, rfl, .inr ⟨vs, h1, by rw [h2.length]; exact hn.symm⟩, fin _ rfl⟩
      all_goals exact other hn
    · exact o.elim
  · exact o.elim
/-! #### all, any -/
def blOf : List D → Option (List Bool)
  | [] => some []
  | .bl b :: ds => (blOf ds).map (b :: ·)
  | _ => none
theorem blOf_rep {G : Gh} {H : Hp} : ∀ {ds : List D} {vs : List V} {bs : List Bool}, RepL X.K T G H ds vs → blOf ds = some bs → vs = bs.map V.bl
  | [], vs, bs, r, h => by simp only [RepL] at r; cases h; rw [r]; rfl
  | d :: ds, vs, bs, r, h => by
    simp only [RepL] at r
    obtain ⟨y, ys, rfl, r1, r2⟩ := r
    cases d <;> simp only [blOf, Option.map_eq_some_iff, reduceCtorEq] at h
    obtain ⟨bs', h', rfl⟩ := h
    simp only [Rep] at r1
    rw [r1, blOf_rep r2 h']
    rfl
def cBools (f : List Bool → Bool) : CallF := fun μ ds k => match ds with
  | [d] => match asL μ d with
    | some l => match blOf l with
      | some bs => k (.v (.bl (f bs)))
      | none => False
    | none => False
  | _ => False
theorem d_bools {f : Value} {g : List Bool → Bool} (h : CallR X f (fun vs H Q => ∃ (a : Addr) (bs : List Bool), vs = [V.ref a] ∧ SqL X.K H a (bs.map V.bl) ∧ Q (.bl (g bs)) H)) : CallD X T f (cBools g) := by
  refine ⟨fun B pins z σ0 H xs us Q I rx ⟨G, μ, σ, δ, ds, k, w, r, o, hk⟩ => ?_⟩
  unfold cBools at o
  split at o
  · obtain ⟨v, ev, rd⟩ := repL1 r
    subst ev
    split at o
    · rename_i l hl
      obtain ⟨a, vs, rfl, h1, h2, _⟩ := asL_of w.g rd hl
      split at o
      · rename_i bs hb
        rw [blOf_rep h2 hb] at h1
        exact h pins z σ0 H _ us Q I rx ⟨a, bs, rfl, h1, val_of w hk o (by simp only [Rep])⟩
      · exact o.elim
    · exact o.elim
  · exact o.elim
/-! #### int(x), bool(x), abs, min, max of two -/
def cInt1 : CallF := fun _ ds k => match ds with
  | [.int i] => k (.v (.int i))
  | [.bl b] => k (.v (.int (if b then 1 else 0)))
  | _ => False
theorem d_int1 : CallD X T (.type "int") cInt1 := by
  refine ⟨fun B pins z σ0 H xs us Q I rx ⟨G, μ, σ, δ, ds, k, w, r, o, hk⟩ => ?_⟩
  unfold cInt1 at o
  split at o
  · obtain ⟨v, ev, rd⟩ := repL1 r
    subst ev
    simp only [Rep] at rd
    exact call_int1 pins z σ0 H _ us Q I rx (.inl ⟨_, by rw [rd], val_of w hk o (by simp only [Rep])⟩)
  · obtain ⟨v, ev, rd⟩ := repL1 r
    subst ev
    simp only [Rep] at rd
    exact call_int1 pins z σ0 H _ us Q I rx (.inr ⟨_, by rw [rd], val_of w hk o (by simp only [Rep])⟩)
  · exact o.elim
def cBool1 : CallF := fun _ ds k => match ds with
  | [.int i] => k (.v (.bl (i != 0)))
  | [.bl b] => k (.v (.bl b))
  | _ => False
theorem d_bool1 : CallD X T (.type "bool") cBool1 := by
  refine ⟨fun B pins z σ0 H xs us Q I rx ⟨G, μ, σ, δ, ds, k, w, r, o, hk⟩ => ?_⟩
  unfold cBool1 at o
  split at o
  · obtain ⟨v, ev, rd⟩ := repL1 r
    subst ev
    simp only [Rep] at rd
    exact call_bool1 pins z σ0 H _ us Q I rx (.inl ⟨_, by rw [rd], val_of w hk o (by simp only [Rep])⟩)
  · obtain ⟨v, ev, rd⟩ := repL1 r
    subst ev
    simp only [Rep] at rd
    exact call_bool1 pins z σ0 H _ us Q I rx (.inr ⟨_, by rw [rd], val_of w hk o (by simp only [Rep])⟩)
  · exact o.elim
def cAbs : CallF := fun _ ds k => match ds with
  | [.int i] => k (.v (.int (if i < 0 then -i else i)))
  | _ => False
theorem d_abs : CallD X T (.builtin "abs") cAbs := by
  refine ⟨fun B pins z σ0 H xs us Q I rx ⟨G, μ, σ, δ, ds, k, w, r, o, hk⟩ => ?_⟩
  unfold cAbs at o
  split at o
  · obtain ⟨v, ev, rd⟩ := repL1 r
    subst ev
    simp only [Rep] at rd
    exact call_abs pins z σ0 H _ us Q I rx ⟨_, by rw [rd], val_of w hk o (by simp only [Rep])⟩
  · exact o.elim
def cMin2 : CallF := fun _ ds k => match ds with
  | [.int i, .int j] => k (.v (.int (if j < i then j else i)))
  | _ => False
def cMax2 : CallF := fun _ ds k => match ds with
  | [.int i, .int j] => k (.v (.int (if j > i then j else i)))
  | _ => False
theorem d_min2 (hc : X.calm = true) : CallD X T (.builtin "min") cMin2 := by
  refine ⟨fun B pins z σ0 H xs us Q I rx ⟨G, μ, σ, δ, ds, k, w, r, o, hk⟩ => ?_⟩
  unfold cMin2 at o
  split at o
  · obtain ⟨v, u, rfl, r1, r2⟩ := repL2 r
    simp only [Rep] at r1 r2
    exact call_min2 hc pins z σ0 H _ us Q I rx ⟨_, _, by rw [r1, r2], val_of w hk o (by simp only [Rep])⟩
  · exact o.elim
theorem d_max2 (hc : X.calm = true) : CallD X T (.builtin "max") cMax2 := by
  refine ⟨fun B pins z σ0 H xs us Q I rx ⟨G, μ, σ, δ, ds, k, w, r, o, hk⟩ => ?_⟩
  unfold cMax2 at o
  split at o
  · obtain ⟨v, u, rfl, r1, r2⟩ := repL2 r
    simp only [Rep] at r1 r2
    exact call_max2 hc pins z σ0 H _ us Q I rx ⟨_, _, by rw [r1, r2], val_of w hk o (by simp only [Rep])⟩
  · exact o.elim
/-! #### list(x), tuple(x) of lists and tuples -/
def seqOf (μ : Mu) : D → Option (List D)
  | .tup ds => some ds
  | d => asL μ d
theorem seqOf_of {G : Gh} {μ : Mu} {H : Hp} (w : WfG X.K T G μ H) {d : D} {ds : List D} {x : V} (r : Rep X.K T G H d x) (h : seqOf μ d = some ds) : ∃ a vs, x = .ref a ∧ (SqL X.K H a vs ∨ SqT X.K H a vs) ∧ RepL X.K T G H ds vs := by
  cases d
  case tup l =>
    cases h
    obtain ⟨a, vs, e, h1, h2⟩ := tup_of r
    exact ⟨a, vs, e, .inr h1, h2⟩
  all_goals (obtain ⟨a, vs, e, h1, h2, _⟩ := asL_of w r h; exact ⟨a, vs, e, .inl h1, h2⟩)
def cList : CallF := fun μ ds k => match ds with
  | [d] => match seqOf μ d with
    | some l => k (.ol l)
    | none => False
  | _ => False
theorem d_list : CallD X T (.type "list") cList := by
  refine ⟨fun B pins z σ0 H xs us Q I rx ⟨G, μ, σ, δ, ds, k, w, r, o, hk⟩ => ?_⟩
  unfold cList at o
  split at o
  · obtain ⟨v, ev, rd⟩ := repL1 r
    subst ev
    split at o
    · rename_i l hl
      obtain ⟨a, vs, rfl, h1, h2⟩ := seqOf_of w.g rd hl
      refine call_list_of pins z σ0 H _ us Q I rx ⟨a, vs, rfl, h1, fun p hp => ?_⟩
      obtain ⟨w', x', ok, n⟩ := w.newL hp h2
      exact hk _ o _ _ _ w' x' ok n
    · exact o.elim
  · exact o.elim
def cTuple : CallF := fun μ ds k => match ds with
  | [d] => match seqOf μ d with
    | some l => k (.v (.tup l))
    | none => False
  | _ => False
theorem d_tuple : CallD X T (.type "tuple") cTuple := by
  refine ⟨fun B pins z σ0 H xs us Q I rx ⟨G, μ, σ, δ, ds, k, w, r, o, hk⟩ => ?_⟩
  unfold cTuple at o
  split at o
  · rename_i d
    obtain ⟨v, ev, rd⟩ := repL1 r
    subst ev
    split at o
    · rename_i l hl
      cases d
      case tup l' =>
        cases hl
        obtain ⟨a, vs, rfl, h1, h2⟩ := tup_of rd
        exact call_tuple_of pins z σ0 H _ us Q I rx ⟨a, vs, rfl, .inr ⟨h1, hk _ o _ G H w w.same rd .v⟩⟩
      all_goals
        obtain ⟨a, vs, rfl, h1, h2, _⟩ := asL_of w.g rd hl
        refine call_tuple_of pins z σ0 H _ us Q I rx ⟨a, vs, rfl, .inl ⟨h1, fun p hp => ?_⟩⟩
        obtain ⟨G', w', x', ok, n⟩ := w.newT hp h2
        exact hk _ o _ _ _ w' x' ok n
    · exact o.elim
  · exact o.elim
/-! #### isinstance of plain data -/
def tyN (μ : Mu) : D → Option String
  | .non => some "NoneType"
  | .bl _ => some "bool"
  | .int _ => some "int"
  | .str _ => some "str"
  | .tup _ => some "tuple"
  | .dct _ _ => some "dict"
  | .lst _ => some "list"
  | .scr _ => some "list"
  | .loc n => match μ[n]? with
    | some (.lst _) => some "list"
    | some (.dct _ _) => some "dict"
    | _ => none
  | _ => none
theorem tyN_of {G : Gh} {μ : Mu} {H : Hp} (w : WfG X.K T G μ H) {d : D} {x : V} {s : String} (r : Rep X.K T G H d x) (h : tyN μ d = some s) : TyX X.K H x (.type s) := by
  cases d <;> simp only [tyN, Option.some.injEq, reduceCtorEq] at h
  case non => subst h; simp only [Rep] at r; subst r; exact .base .non
  case bl => subst h; simp only [Rep] at r; subst r; exact .base (.bl _)
  case int => subst h; simp only [Rep] at r; subst r; exact .base (.int _)
  case str => subst h; simp only [Rep] at r; obtain ⟨rfl, _⟩ := r; exact .base (.str _)
  case tup ds =>
    subst h
    simp only [Rep] at r
    obtain ⟨a, vs, rfl, h1 | ⟨o, its, n, h1, h2, _⟩, _⟩ := r
    · exact .base (.tup h1.2)
    · exact .kTuple h1 h2
  case lst => subst h; simp only [Rep] at r; obtain ⟨a, vs, rfl, _, h1, _⟩ := r; exact .base (.lst h1)
  case scr =>
    subst h; simp only [Rep] at r
    obtain ⟨a, rfl, ⟨_, o, h1⟩ | ⟨o, its, n, h1, h2, _⟩⟩ := r
    · exact .base (.frz h1)
    · exact .kList h1 h2
  case dct => subst h; simp only [Rep] at r; obtain ⟨a, vs, rfl, _, h1, _⟩ := r; exact .base (.dK h1)
  case loc n =>
    simp only [Rep] at r
    obtain ⟨a, rfl, hn⟩ := r
    split at h
    · rename_i ds hm
      cases h
      obtain ⟨vs, h1, _⟩ := w.ce n a _ hn hm
      exact .base (.lst h1)
    · rename_i ks vs hm
      cases h
      obtain ⟨kv, h1, _⟩ := w.ce n a _ hn hm
      exact .base (.dK h1)
    · cases h
/-- T as a value -/
theorem de_ty {n : String} (hg : Gl X x) (hm : X.mg x = none) (hv : bootBuiltins x = some (.type n)) (hn : x ≠ "__name__" := by decide) (hd : (x == ("__debug__" : Str)) = false := by decide) : DE m X T B W (.Name x pos) (eC (.cst (.ty n))) :=
  de_cst (pe_bltn hg hm hv (v := .ty n) rfl hn hd)
def cIsi : CallF := fun μ ds k => match ds with
  | [d, .cst (.ty n)] => match tyN μ d with
    | some t => match kitB t n with
      | some b => k (.v (.bl b))
      | none => False
    | none => False
  | _ => False
theorem d_isi : CallD X T (.builtin "isinstance") cIsi := by
  refine ⟨fun B pins z σ0 H xs us Q I rx ⟨G, μ, σ, δ, ds, k, w, r, o, hk⟩ => ?_⟩
  unfold cIsi at o
  split at o
  · obtain ⟨v, u, rfl, r1, r2⟩ := repL2 r
    simp only [Rep] at r2
    subst r2
    split at o
    · rename_i t ht
      split at o
      · rename_i b hb
        exact call_isi pins z σ0 H _ us Q I rx ⟨_, _, _, _, b, rfl, .ty _, tyN_of w.g r1 ht, kit_ty hb, val_of w hk o (by simp only [Rep])⟩
      · exact o.elim
    · exact o.elim
  · exact o.elim
end
end L3

namespace L3
open PySem PySem.Spec L2
open PyProof.Rows hiding St
set_option autoImplicit false

section
variable {m : Nat} {X : Cx} {T : Tab} {B : Bs} {W : WX} {a b c e o : Expr} {es : List Expr} {pos : Pos} {te to : TE}

/-! ### a, b = e1, e2 -/
theorem qs_par {i j : Nat} {x y : Str} {ta : TA} {px py pt : Pos} {kt k2 pt2} (hc : X.calm = true) (hN : X.N.Nodup) (hi : X.N[i]? = some x) (hj : X.N[j]? = some y) (hij : i ≠ j) (hx : X.env.scope.names.lookup x = some .local) (hy : X.env.scope.names.lookup y = some .local) (ha : QA m X [a, b] ta)
    (hw : swappedStores [.Tuple [.Name x px, .Name y py] kt pt] (.Tuple [a, b] k2 pt2) X.env = pure (some [x, y])) (hs : swapsWithSole [.Tuple [.Name x px, .Name y py] kt pt] (.Tuple [a, b] k2 pt2) pos.line X.env = pure false := by rfl) :
    QS m X (.Assign [.Tuple [.Name x px, .Name y py] kt pt] (.Tuple [a, b] k2 pt2) pos) (tPar i j ta) := by
  refine ⟨fun pins z σ H D hz I q => ?_⟩
  have back : ∀ {u1 u2 : Value} {v w : V} {z1 : Shared} {H1 : Hp}, Inv X pins σ H1 z1 → RelV v u1 → RelV w u2 → D.nx ((σ.set i (some v)).set j (some w)) H1 →
      wpAny (model X.prog X.w) X.A (assignInOrder [fun v => bindName X.env y v, fun v => bindName X.env x v] [u2, u1] >>= fun _ => pure Flow.next) (SP X pins D) X.xe z1 := fun {u1 u2 v w z1 H1} I1 r1 r2 q1 => by
    refine wpAny_bind (assignInOrder_cons (wpAny_bindName (store_ok I1 hN hj (.inl hy) r2 (fun z2 I2 => assignInOrder_cons (wpAny_bindName (store_ok I2 hN hi (.inl hx) r1 (fun z3 I3 => assignInOrder_nil (wpAny_pure ?_)) (.inr hx)))) (.inr hy))))
    refine ⟨_, H1, ?_, q1⟩
    rw [List.set_comm _ _ hij]
    exact I3
  rw [exec_Assign_arm]
  refine wpAny_bind (wpAny_standAt ?_)
  rw [hs]
  refine wpAny_bind (wpAny_pure ?_)
  rw [if_neg Bool.false_ne_true]
  refine wpAny_bind (Tuple_ (thm hz (ha.run _ pins z σ H _ hz I q) fun us z1 _ ⟨vs, H1, I1, r1, v, w, ev, q1⟩ => ?_))
  subst ev
  obtain ⟨u1, u2, eu, rv, rw'⟩ := vals2 r1
  subst eu
  refine wpAny_newObj_type ?_ (by show 2 ≤ sizeLine; rw [sizeLine_eq]; decide)
  have I2 := I1.kept (h' := z1.heap.push { cls := .type "tuple", data := .seq [u1, u2].toArray }) (t' := z1.toks) fun b ob w => Heap.get?_push_of_some _ w
  rw [hw]
  refine wpAny_bind (wpAny_pure ?_)
  have un := unpackItems_tuple (prog := X.prog) (w := X.w) (A := X.A) (E := X.xe) (s := { z1 with heap := z1.heap.push { cls := .type "tuple", data := .seq [u1, u2].toArray } }) (items := #[u1, u2]) (hh := I.ok.hd hc) (ht := IsTup.new z1.heap _)
    (Q := fun l z2 => wpAny (model X.prog X.w) X.A (assignInOrder [fun v => bindName X.env y v, fun v => bindName X.env x v] l.reverse >>= fun _ => pure Flow.next) (SP X pins D) X.xe z2) (hQ := fun h' hx' =>
      back (I2.kept (h' := h') (t' := z1.toks) fun b ob w => hx' b ob (Nat.ne_of_lt (Heap.lt_size w)) w) rv rw' q1)
  exact wpAny_bind (wpAny_rule (wpAny_bind un))
/-- .. by data -/
def sPar (i j : Nat) (g h : Sem') : SSem := fun δ μ D => g δ μ (fun r μ1 => h δ μ1 (fun s μ2 => D.nx ((δ.set i (some r)).set j (some s)) μ2) fun e μ2 => D.ex e δ μ2) fun e μ1 => D.ex e δ μ1
theorem ds_par {i j : Nat} {x y : Str} {g h : Sem'} {px py pt : Pos} {kt k2 pt2} (hc : X.calm = true) (hN : X.N.Nodup) (hi : X.N[i]? = some x) (hj : X.N[j]? = some y) (hij : i ≠ j) (hx : X.env.scope.names.lookup x = some .local) (hy : X.env.scope.names.lookup y = some .local) (ha : DE m X T B W a g) (hb : DE m X T B W b h)
    (hw : swappedStores [.Tuple [.Name x px, .Name y py] kt pt] (.Tuple [a, b] k2 pt2) X.env = pure (some [x, y])) (hs : swapsWithSole [.Tuple [.Name x px, .Name y py] kt pt] (.Tuple [a, b] k2 pt2) pos.line X.env = pure false := by rfl)
    (h1 : starEach [a, b] X.env = (false, eval a X.env) :: starEach [b] X.env := by rfl) (h2 : starEach [b] X.env = (false, eval b X.env) :: starEach [] X.env := by rfl) :
    DS m X T B W (.Assign [.Tuple [.Name x px, .Name y py] kt pt] (.Tuple [a, b] k2 pt2) pos) (sPar i j g h) :=
  QS.weak (qs_par hc hN hi hj hij hx hy (qa_cons ha (qa_cons hb qa_nil h2) h1) hw hs) fun Q σ H ⟨G, δ, μ, D, w, q, en⟩ =>
    ⟨G, δ, μ, _, _, w, q, fun r μ1 q1 v1 G1 H1 w1 x1 ok1 n1 => ⟨G1, δ, μ1, _, _, w1, q1, fun s μ2 q2 v2 G2 H2 w2 x2 ok2 n2 => ⟨v1, v2, rfl,
      en.nx _ _ q2 G2 H2 _ (Wf.set (w.set w1 ok1 n1) (w.set w2 (ok1.ext w1.g x2) n1) ok2 n2) ((x1.trans x2).kp w.g)⟩, xs_of en⟩, xs_of en⟩

/-! ### methods of texts -/
theorem qe_m1 {id : String} {name : Str} {apos : Pos} {r : V → List V → Hp → VK → Prop} (slot : Slot "str" name id) (ty : typeOf (.builtin id) = pure (.type "method_descriptor")) (rule : MtR X id r) (ho : QE m X o to) (he : QE m X e te)
    (hs : starEach [e] X.env = [(false, eval e X.env)] := by rfl) (hbase : attributeBase o name X.env (eval o X.env) = eval o X.env := by rfl) (hline : (apos.endLine == pos.line) = true := by rfl) : QE m X (.Call (.Attribute o name apos) [e] [] pos) (tM1 r to te) := by
  refine ⟨fun pins z σ H Y hz I q => PySem.Call_method1 hbase hs hline (thm hz (ho.run pins z σ H _ hz I q) fun v z1 h1 ⟨x, H1, I1, r1, ⟨y, ey⟩, q1⟩ => ?_)⟩
  subst ey
  have r0 := r1
  obtain ⟨t, et⟩ := r1
  subst et
  exact ⟨"str", _, PySem.F.plainAttrs_str, slot, ty, typeIs_str _ _ _, (fun _ e => nomatch e), Calls.callWith_builtin rfl (Calls.evalArgs_plain (Calls.spliced_cons (thn (he.run pins z1 σ H1 _ h1 I1 q1) fun u z2 ⟨y', H2, I2, r2, q2⟩ => Calls.spliced_nil (rule pins z2 σ H2 _ [y'] _ [u] Y I2 r0 (.cons r2 .nil) q2))))⟩
def strsOf : List D → Option (List (List Nat))
  | [] => some []
  | .str s :: ds => (strsOf ds).map (s :: ·)
  | _ => none
theorem strsOf_rep {G : Gh} {H : Hp} : ∀ {ds : List D} {vs : List V} {ss : List (List Nat)}, RepL X.K T G H ds vs → strsOf ds = some ss → vs = (ss.map strOf).map V.str ∧ ∀ s ∈ ss, ∀ c ∈ s, c < 0x110000
  | [], vs, ss, r, h => by simp only [RepL] at r; cases h; rw [r]; exact ⟨rfl, fun _ h => by cases h⟩
  | d :: ds, vs, ss, r, h => by
    simp only [RepL] at r
    obtain ⟨y, ys, rfl, r1, r2⟩ := r
    cases d <;> simp only [strsOf, Option.map_eq_some_iff, reduceCtorEq] at h
    obtain ⟨ss', h', rfl⟩ := h
    simp only [Rep] at r1
    obtain ⟨e2, c2⟩ := strsOf_rep r2 h'
    rw [r1.1, e2]
    exact ⟨rfl, fun s hs => (List.mem_cons.mp hs).elim (fun z => z ▸ r1.2.2) (c2 s)⟩
/-- sep.join(parts) -/
def glueD (sep : List Nat) : List (List Nat) → List Nat
  | [] => []
  | [p] => p
  | p :: q :: r => p ++ (sep ++ glueD sep (q :: r))
theorem glueD_mem {sep : List Nat} {P : Nat → Prop} (hs : ∀ c ∈ sep, P c) : ∀ {ss : List (List Nat)}, (∀ s ∈ ss, ∀ c ∈ s, P c) → ∀ c ∈ glueD sep ss, P c
  | [], _, c, h => by cases h
  | [p], hp, c, h => hp p (by simp) c h
  | p :: q :: r, hp, c, h => by
    simp only [glueD, List.mem_append] at h
    rcases h with h | h | h
    · exact hp p (by simp) c h
    · exact hs c h
    · exact glueD_mem hs (fun s hm => hp s (List.mem_cons_of_mem _ hm)) c h
theorem glueD_len (sep : List Nat) : ∀ ss : List (List Nat), (glueD sep ss).length ≤ (ss.map List.length).sum + ss.length * sep.length
  | [] => by simp [glueD]
  | [p] => by simp [glueD]
  | p :: q :: r => by
    have ih := glueD_len sep (q :: r)
    simp only [glueD, List.length_append, List.map_cons, List.sum_cons, List.length_cons] at ih ⊢
    rw [Nat.succ_mul]
    omega
theorem join_strOf (sep : List Nat) : ∀ ss : List (List Nat), Str.join (strOf sep) (ss.map strOf) = strOf (glueD sep ss)
  | [] => rfl
  | [p] => rfl
  | p :: q :: r => by
    have ih := join_strOf sep (q :: r)
    show strOf p ++ strOf sep ++ Str.join (strOf sep) ((q :: r).map strOf) = _
    rw [ih, strOf_append, strOf_append, List.append_assoc]
    rfl
def eJoin (g h : Sem') : Sem' := fun δ μ k x => g δ μ (fun r μ1 => match r.d with
  | .str sep => h δ μ1 (fun s μ2 => match seqOf μ2 s.d with
    | some ds => match strsOf ds with
      | some ss => (ss.map List.length).sum + ss.length * sep.length ≤ sizeLine ∧ k (.v (.str (glueD sep ss))) μ2
      | none => False
    | none => False) x
  | _ => False) x
theorem de_join {g h : Sem'} {apos : Pos} (ho : DV m X T B W o g) (he : DV m X T B W e h) (hs : starEach [e] X.env = [(false, eval e X.env)] := by rfl) (hbase : attributeBase o "join" X.env (eval o X.env) = eval o X.env := by rfl) (hline : (apos.endLine == pos.line) = true := by rfl) :
    DE m X T B W (.Call (.Attribute o "join" apos) [e] [] pos) (eJoin g h) :=
  QE.weak (qe_m1 PySem.F.slot_str_join PySem.F.type_str_join mt_join ho he hs hbase hline) fun σ H Q ⟨G, δ, μ, k, xx, w, q, hk, hx⟩ => ⟨G, δ, μ, _, xx, w, q, fun r μ1 q1 v1 G1 H1 w1 x1 r1 => by
    split at q1
    · rename_i sep hr
      rw [hr] at r1
      simp only [Rep] at r1
      obtain ⟨e1, l1, c1⟩ := r1
      refine ⟨⟨_, e1⟩, G1, δ, μ1, _, xx, w1, q1, fun s μ2 q2 v2 G2 H2 w2 x2 r2 => ?_, hx⟩
      split at q2
      · rename_i ds hs
        obtain ⟨p, vs, rfl, h1, h2⟩ := seqOf_of w2.g r2 hs
        split at q2
        · rename_i ss ht
          obtain ⟨ev, cs⟩ := strsOf_rep h2 ht
          rw [ev] at h1
          have hlen : ((ss.map strOf).map (·.length)).sum = (ss.map List.length).sum := by
            rw [List.map_map]
            exact congrArg List.sum (List.map_congr_left fun s _ => strOf_length s)
          refine ⟨_, p, ss.map strOf, e1, rfl, h1, by rw [hlen, List.length_map, strOf_length]; have := q2.1; rw [sizeLine_eq] at this; exact this, ?_⟩
          rw [TL.join_eq, join_strOf]
          refine hk _ _ q2.2 _ G2 H2 w2 (x1.trans x2) ?_ .v
          simp only [ErOk, Rep]
          exact ⟨trivial, Nat.le_trans (glueD_len sep ss) q2.1, glueD_mem c1 cs⟩
        · exact q2.elim
      · exact q2.elim
    · exact q1.elim, hx⟩

/-- s.split(c), one sign -/
def splitD (c : Nat) : List Nat → List (List Nat)
  | [] => [[]]
  | x :: r => if x = c then [] :: splitD c r else match splitD c r with
    | p :: ps => (x :: p) :: ps
    | [] => [[x]]
theorem splitD_ne (c : Nat) (s : List Nat) : splitD c s ≠ [] := by
  cases s with
  | nil => simp [splitD]
  | cons x r => unfold splitD; split; simp; split <;> simp
theorem spl_splitD (c : Nat) : ∀ (s acc : List Nat), TL.spl [c] 0 acc s = match splitD c s with
    | p :: ps => (acc ++ p) :: ps
    | [] => []
  | [], acc => by simp [TL.spl, splitD]
  | x :: r, acc => by
    have ih := fun acc => spl_splitD c r acc
    unfold TL.spl splitD
    have hp : TL.pre [c] (x :: r) = (x == c) := by simp [TL.pre]
    rw [hp]
    by_cases h : x = c
    · subst h
      simp only [beq_self_eq_true, if_true, List.length_singleton, Nat.sub_self]
      rw [ih]
      cases e : splitD x r with
      | nil => exact absurd e (splitD_ne x r)
      | cons p ps => simp
    · rw [beq_eq_false_iff_ne.mpr h]
      simp only [Bool.false_eq_true, if_false, if_neg h]
      rw [ih]
      cases e : splitD c r with
      | nil => exact absurd e (splitD_ne c r)
      | cons p ps => simp
theorem splitD_mem {c : Nat} {P : Nat → Prop} : ∀ {s : List Nat}, (∀ x ∈ s, P x) → ∀ p ∈ splitD c s, ∀ x ∈ p, P x
  | [], _, p, hp, x, hx => by simp [splitD] at hp; subst hp; cases hx
  | y :: r, h, p, hp, x, hx => by
    have ih := splitD_mem (c := c) (s := r) fun x hx => h x (List.mem_cons_of_mem _ hx)
    unfold splitD at hp
    split at hp
    · rcases List.mem_cons.mp hp with rfl | hp
      · cases hx
      · exact ih p hp x hx
    · split at hp
      · rename_i q qs e
        rcases List.mem_cons.mp hp with rfl | hp
        · rcases List.mem_cons.mp hx with rfl | hx
          · exact h _ (by simp)
          · exact ih q (by rw [e]; simp) x hx
        · exact ih p (by rw [e]; exact List.mem_cons_of_mem _ hp) x hx
      · simp at hp; subst hp; simp at hx; subst hx; exact h _ (by simp)
theorem splitD_len {c : Nat} : ∀ {s : List Nat} {p : List Nat}, p ∈ splitD c s → p.length ≤ s.length
  | [], p, hp => by simp [splitD] at hp; subst hp; simp
  | y :: r, p, hp => by
    have ih := fun p => splitD_len (c := c) (s := r) (p := p)
    unfold splitD at hp
    simp only [List.length_cons]
    split at hp
    · rcases List.mem_cons.mp hp with rfl | hp
      · simp
      · exact Nat.le_trans (ih p hp) (Nat.le_succ _)
    · split at hp
      · rename_i q qs e
        rcases List.mem_cons.mp hp with rfl | hp
        · simp only [List.length_cons]
          exact Nat.succ_le_succ (ih q (by rw [e]; simp))
        · exact Nat.le_trans (ih p (by rw [e]; exact List.mem_cons_of_mem _ hp)) (Nat.le_succ _)
      · simp at hp; subst hp; simp
theorem strOf_tl (y : Str) : strOf (TL.tl y) = y := by
  show (⟨(y.cps.toList).toArray⟩ : Str) = y
  rw [Array.toArray_toList]
theorem split_strs {c : Nat} (hc : c < 256) (s : List Nat) : Txt.split (strOf s) (strOf [c]) = (splitD c s).map strOf := by
  have e := TL.split_spl (strOf s) (strOf [c]) (by simp [TL.tl, strOf]) (by
    have : Builtin.Str.strKind (strOf [c]) = 1 := by simp [Builtin.Str.strKind, strOf, hc]
    rw [this]
    unfold Builtin.Str.strKind
    split
    · omega
    · split <;> omega)
  have e2 : TL.spl (TL.tl (strOf [c])) 0 [] (TL.tl (strOf s)) = splitD c s := by
    show TL.spl [c] 0 [] s = _
    rw [spl_splitD]
    cases e : splitD c s with
    | nil => exact absurd e (splitD_ne c s)
    | cons p ps => rfl
  rw [e2] at e
  rw [← e, List.map_map]
  exact (List.map_id' _ |>.symm.trans (List.map_congr_left fun y _ => (strOf_tl y).symm))
theorem repL_strs {G : Gh} {H : Hp} : ∀ {ss : List (List Nat)}, (∀ s ∈ ss, s.length ≤ sizeLine ∧ ∀ c ∈ s, c < 0x110000) → RepL X.K T G H (ss.map .str) ((ss.map strOf).map V.str)
  | [], _ => .nil
  | s :: ss, h => .cons (by simp only [Rep]; exact ⟨trivial, h s (by simp)⟩) (repL_strs fun s hs => h s (List.mem_cons_of_mem _ hs))
def eSplit (g h : Sem') : Sem' := fun δ μ k x => g δ μ (fun r μ1 => match r.d with
  | .str s => h δ μ1 (fun t μ2 => match t.d with
    | .str [c] => c < 256 ∧ s.length + 2 ≤ sizeLine ∧ k (.ol ((splitD c s).map .str)) μ2
    | _ => False) x
  | _ => False) x
theorem de_split {g h : Sem'} {apos : Pos} (ho : DV m X T B W o g) (he : DV m X T B W e h) (hs : starEach [e] X.env = [(false, eval e X.env)] := by rfl) (hbase : attributeBase o "split" X.env (eval o X.env) = eval o X.env := by rfl) (hline : (apos.endLine == pos.line) = true := by rfl) :
    DE m X T B W (.Call (.Attribute o "split" apos) [e] [] pos) (eSplit g h) :=
  QE.weak (qe_m1 PySem.F.slot_str_split PySem.F.type_str_split mt_split ho he hs hbase hline) fun σ H Q ⟨G, δ, μ, k, xx, w, q, hk, hx⟩ => ⟨G, δ, μ, _, xx, w, q, fun r μ1 q1 v1 G1 H1 w1 x1 r1 => by
    split at q1
    · rename_i s hr
      rw [hr] at r1
      simp only [Rep] at r1
      obtain ⟨e1, l1, c1⟩ := r1
      refine ⟨⟨_, e1⟩, G1, δ, μ1, _, xx, w1, q1, fun t μ2 q2 v2 G2 H2 w2 x2 r2 => ?_, hx⟩
      split at q2
      · rename_i c ht
        rw [ht] at r2
        simp only [Rep] at r2
        obtain ⟨q3, q4, q5⟩ := q2
        refine ⟨_, _, e1, by rw [r2.1], rfl, by rw [strOf_length]; exact q4, fun p hp => ?_⟩
        rw [split_strs q3]
        obtain ⟨w', x', ok, n⟩ := w2.newL hp (repL_strs (X := X) (T := T) (G := G2) (H := H2) (ss := splitD c s) fun p hp => ⟨Nat.le_trans (splitD_len hp) l1, splitD_mem c1 p hp⟩)
        exact hk _ _ q5 _ _ _ w' ((x1.trans x2).trans x') ok ((n.back x2).back x1)
      · exact q2.elim
    · exact q1.elim, hx⟩

/-- s.replace(a, z), a one sign, both written -/
def replD (a : Nat) (z s : List Nat) : List Nat := s.flatMap fun c => if c = a then z else [c]
theorem replL_replD (a : Nat) (z : List Nat) : ∀ s : List Nat, PySem.StrLaws.replL [a] z s = replD a z s
  | [] => by simp [PySem.StrLaws.replL, PySem.StrLaws.replS, replD]
  | c :: r => by
    have ih := replL_replD a z r
    unfold PySem.StrLaws.replL at ih ⊢
    unfold PySem.StrLaws.replS
    by_cases h : c = a
    · subst h
      simp only [List.length_singleton, List.take_succ_cons, List.take_zero, if_true, Nat.sub_self, ih, replD, List.flatMap_cons]
    · have : ¬ (c :: r).take [a].length = [a] := by simp [h]
      rw [if_neg this, ih]
      simp [replD, h]
theorem replD_cons (a : Nat) (z : List Nat) (c : Nat) (r : List Nat) : replD a z (c :: r) = (if c = a then z else [c]) ++ replD a z r := by
  unfold replD
  rw [List.flatMap_cons]
theorem replD_len (a : Nat) (z : List Nat) : ∀ s : List Nat, (replD a z s).length ≤ s.length + s.length * z.length
  | [] => by simp [replD]
  | c :: r => by
    have ih := replD_len a z r
    rw [replD_cons, List.length_append, List.length_cons, Nat.succ_mul]
    generalize r.length * z.length = n at *
    split
    · omega
    · rw [List.length_singleton]; omega
theorem replD_mem {a : Nat} {z : List Nat} {P : Nat → Prop} (hz : ∀ c ∈ z, P c) {s : List Nat} (h : ∀ c ∈ s, P c) : ∀ c ∈ replD a z s, P c := fun c hc => by
  obtain ⟨x, hx, hc⟩ := List.mem_flatMap.mp hc
  split at hc
  · exact hz c hc
  · simp at hc; subst hc; exact h _ hx
theorem repl_strOf (a : Nat) (z s : List Nat) : Txt.replace (strOf s) (strOf [a]) (strOf z) = strOf (replD a z s) := by
  have e := PySem.StrLaws.replace_list (x := strOf s) (y := strOf [a]) (z := strOf z) (by rw [strOf_length]; exact Nat.le_refl _)
  have e2 : PySem.StrLaws.replL (strOf [a]).cps.toList (strOf z).cps.toList (strOf s).cps.toList = replD a z s := by
    show PySem.StrLaws.replL [a] z s = _
    exact replL_replD a z s
  rw [e2] at e
  rw [← strOf_tl (Txt.replace (strOf s) (strOf [a]) (strOf z))]
  exact congrArg strOf e
def eRepl (g : Sem') (a : Nat) (z : List Nat) : Sem' := fun δ μ k x => g δ μ (fun r μ1 => match r.d with
  | .str s => s.length + (s.length + 1) * z.length ≤ sizeLine ∧ k (.v (.str (replD a z s))) μ1
  | _ => False) x
theorem de_repl {g : Sem'} {apos c0 c1 : Pos} {j k : Nat} {y1 z1 : Str} {a : Nat} {z : List Nat} (h1 : 1 ≤ m) (ho : DV m X T B W o g) (hy : y1 = strOf [a]) (hz : z1 = strOf z) (hne : [a] ≠ z) (hc : (z.all fun c => decide (c < 0x110000)) = true)
    (hst : starEach [.Constant (.str y1) j c0, .Constant (.str z1) k c1] X.env = [(false, eval (.Constant (.str y1) j c0) X.env), (false, eval (.Constant (.str z1) k c1) X.env)] := by rfl)
    (hbase : attributeBase o "replace" X.env (eval o X.env) = eval o X.env := by rfl) (hline : (apos.endLine == pos.line) = true := by rfl) : DE m X T B W (.Call (.Attribute o "replace" apos) [.Constant (.str y1) j c0, .Constant (.str z1) k c1] [] pos) (eRepl g a z) := by
  subst hy
  subst hz
  have hne' : (strOf [a] == strOf z) = false := by rw [strOf_inj]; exact beq_eq_false_iff_ne.mpr hne
  refine QE.weak (t := fun σ H Q => tD X.K T B W g σ H fun v H1 => ∃ x, v = .str x ∧ x.length + (x.length + 1) * (strOf z).length ≤ 16777216 ∧ Q (.str (Txt.replace x (strOf [a]) (strOf z))) H1)
    ⟨fun pins s σ H Y hs I q => PySem.Call_method2 hbase hst hline (thm hs (ho.run pins s σ H _ hs I q) fun v s1 k1 ⟨x, H1, I1, r1, y, ey, hb, q1⟩ => ?_)⟩ fun σ H Q ⟨G, δ, μ, k, xx, w, q, hk, hx⟩ => ⟨G, δ, μ, _, xx, w, q, fun r μ1 q1 v1 G1 H1 w1 x1 r1 => ?_, hx⟩
  · subst ey
    obtain ⟨t, et⟩ := r1
    subst et
    have t0 : s1.toks ≠ 0 := by omega
    refine ⟨"str", _, PySem.F.plainAttrs_str, PySem.F.slot_str_replace, PySem.F.type_str_replace, typeIs_str _ _ _, (fun _ e => nomatch e), Calls.callWith_builtin rfl (Calls.evalArgs_plain (Calls.spliced_cons (Calls.Constant_str (Calls.spliced_cons (Calls.Constant_str (Calls.spliced_nil ?_))))))⟩
    exact PySem.SC.replace t0 (Nat.succ_ne_zero _) (Nat.ne_of_lt (Nat.lt_succ_self _)) hne' hb fun t' k => ⟨.str _, H1, I1.tok k, ⟨t', rfl⟩, q1⟩
  · split at q1
    · rename_i s hr
      rw [hr] at r1
      simp only [Rep] at r1
      obtain ⟨e1, l1, c1⟩ := r1
      refine ⟨_, e1, by rw [strOf_length, strOf_length]; have := q1.1; rw [sizeLine_eq] at this; exact this, ?_⟩
      rw [repl_strOf]
      refine hk _ _ q1.2 _ G1 H1 w1 x1 ?_ .v
      simp only [ErOk, Rep]
      refine ⟨trivial, Nat.le_trans (replD_len a z s) (Nat.le_trans ?_ q1.1), replD_mem (fun c hm => by simpa using List.all_eq_true.mp hc c hm) c1⟩
      rw [Nat.succ_mul]
      omega
    · exact q1.elim
end
end L3

namespace L3
open PySem PySem.Spec L2
open PyProof.Rows hiding St
set_option autoImplicit false

section
variable {K : PySem.W.Frag} {T : Tab} {B : Bs}

/-! ### a fresh object written, kept, laid into the store -/
structure Fresh (Gs : Gh) (Hs : Hp) (G : Gh) (H : Hp) (p : Addr) : Prop where
  n : Hs p = none
  nf : ¬ G.F p
  ni : p ∉ G.io
theorem Fresh.later {Gs G G1 : Gh} {Hs H H1 : Hp} {p : Addr} {o : HO} (f : Fresh Gs Hs G H p) (h : H p = some o) (x : Ext G H G1 H1) : Fresh Gs Hs G1 H1 p ∧ H1 p = some o := by
  refine ⟨⟨f.n, fun z => ?_, fun z => ?_⟩, x.keep p o h f.ni⟩
  · rcases x.newF p z with z | z
    · exact f.nf z
    · rw [h] at z; cases z
  · have := x.new p z f.ni
    rw [h] at this; cases this
theorem own_ne {Gs : Gh} {μs : Mu} {Hs : Hp} {σ : St} {δ : Env'} {p : Addr} (ws : Wf K T B Gs μs Hs σ δ) (hn : Hs p = none) {j : Nat} {q : Rv} {u : V} (e : δ[j]? = some (some q)) (eu : σ[j]? = some (some u)) (o : q.own = true) {a : Addr} (ea : u = .ref a) : a ≠ p := by
  obtain ⟨u', eu', h'⟩ := ws.sl j q e
  rw [eu] at eu'; cases eu'
  obtain ⟨a', o', ea', ha, _⟩ := h'.own_some o
  rw [ea] at ea'; cases ea'
  exact fun z => by rw [z, hn] at ha; cases ha
/-- written -/
theorem Wf.wrF {Gs G : Gh} {μs μ : Mu} {Hs H : Hp} {σ : St} {δ : Env'} {p : Addr} (ws : Wf K T B Gs μs Hs σ δ) (w : Wf K T B G μ H σ δ) (x : Ext Gs Hs G H) (f : Fresh Gs Hs G H p) (u : HO) :
    Wf K T B G μ (upd H p u) σ δ ∧ Ext Gs Hs G (upd H p u) ∧ Kp G H G (upd H p u) := by
  have nfp : ∀ a, G.F a → a ≠ p := fun a g z => f.nf (by rw [← z]; exact g)
  have nip : ∀ a, a ∈ G.io → a ≠ p := fun a g z => f.ni (by rw [← z]; exact g)
  have k : Kp G H G (upd H p u) := ⟨fun a f => f, ⟨[], by simp⟩, fun a o g h => by rw [upd_ne (nfp a g)]; exact h⟩
  have x' : Ext Gs Hs G (upd H p u) := ⟨x.fr, x.io, fun a o e h => by rw [upd_ne (fun z => by rw [z, f.n] at e; cases e)]; exact x.keep a o e h, x.new, x.newF, fun a h => by
    obtain ⟨o, e⟩ := x.there a h
    exact ⟨o, by rw [upd_ne (nip a (x.mem h))]; exact e⟩⟩
  refine ⟨⟨⟨fun a g => ?_, w.g.ln, w.g.nd, w.g.nf, fun m a c e1 e2 => (w.g.ce m a c e1 e2).kp k fun o h => ?_⟩, ws.x.trans x', w.ln, fun j q e => ?_, w.fr, w.ds, w.sf⟩, x', k⟩
  · obtain ⟨o, e⟩ := w.g.fz a g
    exact ⟨o, by rw [upd_ne (nfp a g)]; exact e⟩
  · rw [upd_ne (nip a (List.mem_of_getElem? e1))]; exact h
  · obtain ⟨v, eu, h⟩ := w.sl j q e
    refine ⟨v, eu, ?_⟩
    have key : ∀ a, q.own = true → v = .ref a → a ≠ p := fun a ho eq => own_ne ws f.n e eu ho eq
    cases q with
    | v d => exact Rep.kp k d v h
    | ol es' =>
      obtain ⟨q, ws', e2, hq, nf', ni', r'⟩ := h
      exact ⟨q, ws', e2, by rw [upd_ne (key q rfl e2)]; exact hq, nf', ni', RepL.kp k es' ws' r'⟩
    | oi c es' =>
      obtain ⟨q, dx, fs, e2, hq, nf', ni', e3, r'⟩ := h
      exact ⟨q, dx, fs, e2, by rw [upd_ne (key q rfl e2)]; exact hq, nf', ni', e3, RepL.kp k es' _ r'⟩
/-- it changes no more -/
theorem Wf.toF {Gs G : Gh} {μs μ : Mu} {Hs H : Hp} {σ : St} {δ : Env'} {p : Addr} {o : HO} (ws : Wf K T B Gs μs Hs σ δ) (w : Wf K T B G μ H σ δ) (x : Ext Gs Hs G H) (f : Fresh Gs Hs G H p) (hp : H p = some o) :
    Wf K T B ⟨fun a => G.F a ∨ a = p, G.io⟩ μ H σ δ ∧ Ext Gs Hs ⟨fun a => G.F a ∨ a = p, G.io⟩ H ∧ Kp G H ⟨fun a => G.F a ∨ a = p, G.io⟩ H := by
  have k : Kp G H ⟨fun a => G.F a ∨ a = p, G.io⟩ H := ⟨fun a f => .inl f, ⟨[], by simp⟩, fun _ _ _ h => h⟩
  have x' : Ext Gs Hs ⟨fun a => G.F a ∨ a = p, G.io⟩ H := ⟨fun a f => .inl (x.fr a f), x.io, x.keep, x.new, fun a z => by
    rcases z with z | rfl
    · exact x.newF a z
    · exact .inr f.n, x.there⟩
  refine ⟨⟨⟨?_, w.g.ln, w.g.nd, ?_, fun n a c e1 e2 => (w.g.ce n a c e1 e2).kp k fun _ h => h⟩, ws.x.trans x', w.ln, fun j q e => ?_, w.fr, w.ds, w.sf⟩, x', k⟩
  · rintro a (z | rfl)
    · exact w.g.fz a z
    · exact ⟨_, hp⟩
  · rintro a hi (z | rfl)
    · exact w.g.nf a hi z
    · exact f.ni hi
  · obtain ⟨v, eu, h⟩ := w.sl j q e
    refine ⟨v, eu, ?_⟩
    have key : ∀ a, q.own = true → v = .ref a → ¬ G.F a → ¬ (G.F a ∨ a = p) := fun a ho eq nf' z => z.elim nf' (own_ne ws f.n e eu ho eq)
    cases q with
    | v d => exact Rep.kp k d v h
    | ol es' =>
      obtain ⟨q, ws', e2, hq, nf', ni', r'⟩ := h
      exact ⟨q, ws', e2, hq, key q rfl e2 nf', ni', RepL.kp k es' ws' r'⟩
    | oi c es' =>
      obtain ⟨q, dx, fs, e2, hq, nf', ni', e3, r'⟩ := h
      exact ⟨q, dx, fs, e2, hq, key q rfl e2 nf', ni', e3, RepL.kp k es' _ r'⟩
theorem getElem?_snoc {α : Type} {l : List α} {x y : α} {n : Nat} (h : (l ++ [x])[n]? = some y) : l[n]? = some y ∨ (n = l.length ∧ y = x) := by
  by_cases q : n < l.length
  · rw [List.getElem?_append_left q] at h; exact .inl h
  · rw [List.getElem?_append_right (by omega)] at h
    have hz : n - l.length = 0 := by
      rcases Nat.eq_zero_or_pos (n - l.length) with z | z
      · exact z
      · rw [List.getElem?_eq_none (by simp only [List.length_cons, List.length_nil]; omega)] at h; cases h
    rw [hz] at h
    exact .inr ⟨by omega, by simpa using h.symm⟩
/-- it becomes a cell of the store -/
theorem Wf.toC {Gs G : Gh} {μs μ : Mu} {Hs H : Hp} {σ : St} {δ : Env'} {p : Addr} {c : Cell} (ws : Wf K T B Gs μs Hs σ δ) (w : Wf K T B G μ H σ δ) (x : Ext Gs Hs G H) (f : Fresh Gs Hs G H p) (hc : CellOk K T G H p c) :
    Wf K T B ⟨G.F, G.io ++ [p]⟩ (μ ++ [c]) H σ δ ∧ Ext Gs Hs ⟨G.F, G.io ++ [p]⟩ H ∧ Kp G H ⟨G.F, G.io ++ [p]⟩ H ∧ Rep K T ⟨G.F, G.io ++ [p]⟩ H (.loc μ.length) (.ref p) := by
  have k : Kp G H ⟨G.F, G.io ++ [p]⟩ H := ⟨fun a f => f, ⟨[p], rfl⟩, fun _ _ _ h => h⟩
  have x' : Ext Gs Hs ⟨G.F, G.io ++ [p]⟩ H := ⟨x.fr, let ⟨l, e⟩ := x.io; ⟨l ++ [p], by show G.io ++ [p] = _; rw [e, List.append_assoc]⟩, x.keep, fun a z n => by
    rcases List.mem_append.mp z with z | z
    · exact x.new a z n
    · have : a = p := by simpa using z
      subst this; exact f.n, x.newF, x.there⟩
  refine ⟨⟨⟨w.g.fz, ?_, ?_, ?_, fun n a c' e1 e2 => ?_⟩, ws.x.trans x', w.ln, fun j q e => ?_, w.fr, w.ds, w.sf⟩, x', k, ?_⟩
  · show (G.io ++ [p]).length = (μ ++ [c]).length
    rw [List.length_append, List.length_append, w.g.ln]; rfl
  · show (G.io ++ [p]).Nodup
    rw [List.nodup_append]
    exact ⟨w.g.nd, by simp, fun a ha b hb z => by have hb' : b = p := by simpa using hb
                                                  subst hb'; subst z; exact f.ni ha⟩
  · intro a z
    rcases List.mem_append.mp z with z | z
    · exact w.g.nf a z
    · have : a = p := by simpa using z
      subst this; exact f.nf
  · rcases getElem?_snoc e1 with h1 | ⟨h1, rfl⟩
    · rcases getElem?_snoc e2 with h2 | ⟨h2, rfl⟩
      · exact (w.g.ce n a c' h1 h2).kp k fun _ h => h
      · have := (List.getElem?_eq_some_iff.mp h1).1
        rw [w.g.ln] at this; omega
    · rcases getElem?_snoc e2 with h2 | ⟨h2, rfl⟩
      · have := (List.getElem?_eq_some_iff.mp h2).1
        rw [← w.g.ln] at this; omega
      · exact hc.kp k fun _ h => h
  · obtain ⟨v, eu, h⟩ := w.sl j q e
    refine ⟨v, eu, ?_⟩
    have key : ∀ a, q.own = true → v = .ref a → a ∉ G.io → a ∉ G.io ++ [p] := fun a ho eq nf' z => by
      rcases List.mem_append.mp z with z | z
      · exact nf' z
      · exact own_ne ws f.n e eu ho eq (by simpa using z)
    cases q with
    | v d => exact Rep.kp k d v h
    | ol es' =>
      obtain ⟨q, ws', e2, hq, nf', ni', r'⟩ := h
      exact ⟨q, ws', e2, hq, nf', key q rfl e2 ni', RepL.kp k es' ws' r'⟩
    | oi c es' =>
      obtain ⟨q, dx, fs, e2, hq, nf', ni', e3, r'⟩ := h
      exact ⟨q, dx, fs, e2, hq, nf', key q rfl e2 ni', e3, RepL.kp k es' _ r'⟩
  · simp only [Rep]
    refine ⟨p, rfl, ?_⟩
    rw [← w.g.ln]
    show (G.io ++ [p])[G.io.length]? = some p
    simp
/-- a cell is written -/
theorem Wf.wrC {G : Gh} {μ : Mu} {H : Hp} {σ : St} {δ : Env'} (w : Wf K T B G μ H σ δ) {n : Nat} {a : Addr} {c : Cell} {u : HO} (hn : G.io[n]? = some a) (hc : ∀ G' H', Kp G H G' H' → H' a = some u → CellOk K T G' H' a c) :
    Wf K T B G (μ.set n c) (upd H a u) σ δ ∧ Kp G H G (upd H a u) ∧ Ext G H G (upd H a u) := by
  have ha := List.mem_of_getElem? hn
  have nfp : ∀ b, G.F b → b ≠ a := fun b g z => w.g.nf a ha (by rw [← z]; exact g)
  have k : Kp G H G (upd H a u) := ⟨fun a f => f, ⟨[], by simp⟩, fun b o g h => by rw [upd_ne (nfp b g)]; exact h⟩
  have x' : Ext G H G (upd H a u) := ⟨fun _ f => f, ⟨[], by simp⟩, fun b o e h => by rw [upd_ne (fun z => h (by rw [z]; exact ha))]; exact e, fun b h n => absurd h n, fun b f => .inl f, fun b h => by
    by_cases z : b = a
    · rw [z]; exact ⟨u, upd_same⟩
    · obtain ⟨o, e⟩ := w.g.there h
      exact ⟨o, by rw [upd_ne z]; exact e⟩⟩
  refine ⟨⟨⟨fun b g => ?_, by rw [List.length_set]; exact w.g.ln, w.g.nd, w.g.nf, fun m b c' e1 e2 => ?_⟩, w.x.trans x', w.ln, fun j q e => ?_, w.fr, w.ds, w.sf⟩, k, x'⟩
  · obtain ⟨o, e⟩ := w.g.fz b g
    exact ⟨o, by rw [upd_ne (nfp b g)]; exact e⟩
  · by_cases z : m = n
    · subst z
      rw [hn] at e1; cases e1
      have : c' = c := by
        by_cases hl : m < μ.length
        · rw [List.getElem?_set_self hl] at e2; exact (Option.some.inj e2).symm
        · rw [List.getElem?_eq_none (by simpa using hl)] at e2; cases e2
      subst this
      exact hc _ _ k upd_same
    · rw [List.getElem?_set_ne (Ne.symm z)] at e2
      refine (w.g.ce m b c' e1 e2).kp k fun o h => ?_
      have hb : b ≠ a := fun q => by
        subst q
        exact z ((List.getElem?_inj (List.getElem?_eq_some_iff.mp e1).1 w.g.nd).mp (by rw [e1, hn]))
      rw [upd_ne hb]; exact h
  · obtain ⟨v, eu, h⟩ := w.sl j q e
    refine ⟨v, eu, ?_⟩
    have key : ∀ b, b ∉ G.io → b ≠ a := fun b nb z => nb (by rw [z]; exact ha)
    cases q with
    | v d => exact Rep.kp k d v h
    | ol es' =>
      obtain ⟨q, ws', e2, hq, nf', ni', r'⟩ := h
      exact ⟨q, ws', e2, by rw [upd_ne (key q ni')]; exact hq, nf', ni', RepL.kp k es' ws' r'⟩
    | oi c es' =>
      obtain ⟨q, dx, fs, e2, hq, nf', ni', e3, r'⟩ := h
      exact ⟨q, dx, fs, e2, by rw [upd_ne (key q ni')]; exact hq, nf', ni', e3, RepL.kp k es' _ r'⟩
end

section
variable {m : Nat} {X : Cx} {T : Tab} {B : Bs} {W : WX} {a b c e o : Expr} {es : List Expr} {pos : Pos} {st : Stmt} {rest : List Stmt}
theorem QS.up {n : Nat} {t : TS} (h : QS m X st t) (hn : m ≤ n) : QS n X st t := ⟨fun p z σ H Y hz I q => h.run p z σ H Y (Nat.le_trans hn hz) I q⟩
theorem QI.up {n : Nat} {tg : Expr} {t : TI} (h : QI m X tg e t) (hn : m ≤ n) : QI n X tg e t := ⟨fun p z σ H Y hz I q => h.run p z σ H Y (Nat.le_trans hn hz) I q⟩
theorem QA.pa {t : TA} (h : QA 0 X es t) : PA X es t := ⟨fun pos p z σ H Y I q => h.run pos p z σ H Y (Nat.zero_le _) I q⟩

/-! ### a list of one's own becomes a cell -/
def sCell (i : Nat) (s : SSem) : SSem := fun δ μ D => match δ[i]? with
  | some (some (.ol ds)) => s (δ.set i (some (.v (.loc μ.length)))) (μ ++ [.lst ds]) D
  | _ => s δ μ D
theorem cell_core {K : PySem.W.Frag} {G : Gh} {μ : Mu} {H : Hp} {σ : St} {δ : Env'} {i : Nat} {ds : List D} (w : Wf K T B G μ H σ δ) (hd : δ[i]? = some (some (.ol ds))) :
    ∃ G', Wf K T B G' (μ ++ [.lst ds]) H σ (δ.set i (some (.v (.loc μ.length)))) ∧ Kp G H G' H := by
  obtain ⟨v, e1, p, vs, ev, hp, nf, ni, r⟩ := w.sl i _ hd
  subst ev
  have n := w.fr i _ _ hd e1
  have k : Kp G H ⟨G.F, G.io ++ [p]⟩ H := ⟨fun a f => f, ⟨[p], rfl⟩, fun _ _ _ h => h⟩
  have hil : i < δ.length := (List.getElem?_eq_some_iff.mp hd).1
  have look : ∀ {j : Nat} {r' : Rv}, (δ.set i (some (.v (.loc μ.length))))[j]? = some (some r') → (j = i ∧ r' = .v (.loc μ.length)) ∨ (j ≠ i ∧ δ[j]? = some (some r')) := fun {j r'} e => by
    by_cases h : j = i
    · subst h
      rw [List.getElem?_set_self hil] at e
      exact .inl ⟨rfl, by cases e; rfl⟩
    · rw [List.getElem?_set_ne (Ne.symm h)] at e
      exact .inr ⟨h, e⟩
  have x' : Ext B.G B.H ⟨G.F, G.io ++ [p]⟩ H := ⟨w.x.fr, let ⟨l, e⟩ := w.x.io; ⟨l ++ [p], by show G.io ++ [p] = _; rw [e, List.append_assoc]⟩, w.x.keep, fun a z nn => by
    rcases List.mem_append.mp z with z | z
    · exact w.x.new a z nn
    · have : a = p := by simpa using z
      subst this; exact n rfl _ rfl, w.x.newF, w.x.there⟩
  refine ⟨⟨G.F, G.io ++ [p]⟩, ⟨⟨w.g.fz, ?_, ?_, ?_, fun n a c' e1 e2 => ?_⟩, x', by simpa using w.ln, fun j r' e => ?_, fun j r' u e eu => ?_, fun j j' r1 r2 q e1 e2 o1 o2 s1 s2 => ?_, fun j c vs e => ?_⟩, k⟩
  · show (G.io ++ [p]).length = (μ ++ [Cell.lst ds]).length
    rw [List.length_append, List.length_append, w.g.ln]; rfl
  · show (G.io ++ [p]).Nodup
    rw [List.nodup_append]
    exact ⟨w.g.nd, by simp, fun a ha b hb z => by have hb' : b = p := by simpa using hb
                                                  subst hb'; subst z; exact ni ha⟩
  · intro a z
    rcases List.mem_append.mp z with z | z
    · exact w.g.nf a z
    · have : a = p := by simpa using z
      subst this; exact nf
  · rcases getElem?_snoc e1 with h1 | ⟨h1, rfl⟩
    · rcases getElem?_snoc e2 with h2 | ⟨h2, rfl⟩
      · exact (w.g.ce n a c' h1 h2).kp k fun _ h => h
      · have := (List.getElem?_eq_some_iff.mp h1).1
        rw [w.g.ln] at this; omega
    · rcases getElem?_snoc e2 with h2 | ⟨h2, rfl⟩
      · have := (List.getElem?_eq_some_iff.mp h2).1
        rw [← w.g.ln] at this; omega
      · exact ⟨vs, hp, RepL.kp k ds vs r⟩
  · rcases look e with ⟨rfl, rfl⟩ | ⟨hj, e⟩
    · refine ⟨_, e1, ?_⟩
      show Rep K T _ H (.loc μ.length) _
      simp only [Rep]
      refine ⟨p, rfl, ?_⟩
      rw [← w.g.ln]
      show (G.io ++ [p])[G.io.length]? = some p
      simp
    · obtain ⟨u, eu, h⟩ := w.sl j r' e
      refine ⟨u, eu, ?_⟩
      have key : ∀ q, r'.own = true → u = .ref q → q ∉ G.io → q ∉ G.io ++ [p] := fun q ho eq nf' f => by
        rcases List.mem_append.mp f with f | f
        · exact nf' f
        · have : q = p := by simpa using f
          subst this
          subst eq
          exact hj (w.ds j i _ _ _ e hd ho rfl eu e1)
      cases r' with
      | v d => exact Rep.kp k d u h
      | ol es =>
        obtain ⟨q, ws, e2, hq, nf', ni', r'⟩ := h
        exact ⟨q, ws, e2, hq, nf', key q rfl e2 ni', RepL.kp k es ws r'⟩
      | oi c es =>
        obtain ⟨q, dx, fs, e2, hq, nf', ni', e3, r'⟩ := h
        exact ⟨q, dx, fs, e2, hq, nf', key q rfl e2 ni', e3, RepL.kp k es _ r'⟩
  · rcases look e with ⟨rfl, rfl⟩ | ⟨hj, e⟩
    · exact .v
    · exact w.fr j r' u e eu
  · rcases look e1 with ⟨rfl, rfl⟩ | ⟨hj, f1⟩
    · cases o1
    · rcases look e2 with ⟨rfl, rfl⟩ | ⟨hj', f2⟩
      · cases o2
      · exact w.ds j j' r1 r2 q f1 f2 o1 o2 s1 s2
  · rcases look e with ⟨_, h⟩ | ⟨_, e⟩
    · cases h
    · exact w.sf j c _ e
theorem dss_cell (i : Nat) {s : SSem} {sts : List Stmt} (h : DSs m X T B W sts s) : DSs m X T B W sts (sCell i s) := QSs.weak h fun Q σ H ⟨G, δ, μ, D, w, q, en⟩ => by
  unfold sCell at q
  split at q
  · rename_i ds hd
    obtain ⟨G', w', k⟩ := cell_core w hd
    exact ⟨G', _, _, D, w', q, en.kp k⟩
  · exact ⟨G, δ, μ, D, w, q, en⟩

/-! ### *xs in a display or a call -/
theorem qa_star {te : TE} {t : TA} {p : Pos} (he : QE m X e te) (hr : QA 0 X es t) (hs : starEach (.Starred e p :: es) X.env = (true, eval e X.env) :: starEach es X.env := by rfl) : QA m X (.Starred e p :: es) (StX.tStar X.K te t) := by
  refine ⟨fun pos pins z σ H Y hz I q => ?_⟩
  refine PySem.W.items_star (thm hz (he.run pins z σ H _ hz I q) fun v z1 h1 ⟨y, H1, I1, ry, a, xs, ey, hx, q1⟩ => ?_) hs
  subst ey
  obtain rfl : v = Value.ref a := ry
  refine StX.star_any I1 hx fun us s2 I2 rv => ?_
  exact thn (hr.run pos pins s2 σ H1 _ (Nat.zero_le _) I2 q1) fun ws s3 ⟨vs, H3, I3, r3, q3⟩ => ⟨xs ++ vs, H3, I3, rv.append r3, q3⟩
def aStar (g : Sem') (t : SemA) : SemA := fun δ μ k x => g δ μ (fun r μ1 => match seqOf μ1 r.d with
  | some l => t δ μ1 (fun ds μ2 => k (l ++ ds) μ2) x
  | none => False) x
theorem da_star {g : Sem'} {t : SemA} {p : Pos} (he : DV m X T B W e g) (hr : DA 0 X T B W es t) (hs : starEach (.Starred e p :: es) X.env = (true, eval e X.env) :: starEach es X.env := by rfl) : DA m X T B W (.Starred e p :: es) (aStar g t) :=
  QA.weak (qa_star he hr hs) fun σ H Q ⟨G, δ, μ, k, xx, w, q, hk, hx⟩ => ⟨G, δ, μ, _, xx, w, q, fun r μ1 q1 v1 G1 H1 w1 x1 r1 => by
    split at q1
    · rename_i l hl
      obtain ⟨a, vs, rfl, h1, h2⟩ := seqOf_of w1.g r1 hl
      exact ⟨a, vs, rfl, h1.symm, G1, δ, μ1, _, xx, w1, q1, fun ds μ2 q2 us G2 H2 w2 x2 r2 => hk _ _ q2 _ G2 H2 w2 (x1.trans x2) ((RepL.kp (x2.kp w1.g) _ _ h2).append r2), hx⟩
    · exact q1.elim, hx⟩

/-! ### enumerate, zip of lists laid down -/
def enumFrom (n : Nat) : List D → List D
  | [] => []
  | d :: ds => .tup [.int (n : Nat), d] :: enumFrom (n + 1) ds
theorem enum_get : ∀ (ds : List D) (n i : Nat) (z : D), (enumFrom n ds)[i]? = some z → ∃ d, ds[i]? = some d ∧ z = .tup [.int ((n + i : Nat) : Int), d]
  | [], _, _, _, h => by simp [enumFrom] at h
  | d :: ds, n, 0, z, h => by simp [enumFrom] at h; exact ⟨d, rfl, h.symm⟩
  | d :: ds, n, i + 1, z, h => by
    simp only [enumFrom, List.getElem?_cons_succ] at h
    obtain ⟨d', e1, e2⟩ := enum_get ds (n + 1) i z h
    exact ⟨d', by simpa using e1, by rw [e2, Nat.add_right_comm, Nat.add_assoc]⟩
theorem enum_len : ∀ (ds : List D) (n : Nat), (enumFrom n ds).length = ds.length
  | [], _ => rfl
  | d :: ds, n => by simp only [enumFrom, List.length_cons, enum_len ds (n + 1)]
theorem good_enum {K : PySem.W.Frag} {G : Gh} {H : Hp} {a : Addr} {vs : List V} {ds : List D} (f : G.F a) (h : Rd H a (.lst vs)) (r : RepL K T G H ds vs) : GoodIt K T B (Ite K a) G H (enumFrom 0 ds) := fun i G' μ' H' σ' δ' w k => by
  have hq := sqL_kp (K := K) k f h
  refine ⟨fun d hd => ?_, fun hi => ⟨vs, hq, by rw [r.length]; rw [enum_len] at hi; exact hi⟩⟩
  obtain ⟨d', hd', rfl⟩ := enum_get ds 0 i d hd
  obtain ⟨v, e1, r1⟩ := r.get hd'
  refine ⟨⟨vs, v, hq, e1⟩, fun x H'' y => ?_⟩
  obtain ⟨A, v', rfl, hA, rfl, y⟩ := y
  have := y vs hq
  rw [e1] at this; cases this
  obtain ⟨G2, w2, x2, ok, _⟩ := w.newT hA (ds := [.int (i : Nat), d']) (vs := [.int (i : Nat), v]) (.cons (by simp only [Rep]) (.one (Rep.kp k _ _ r1)))
  refine ⟨G2, w2, x2, ?_⟩
  rw [Nat.zero_add]
  exact ok
def iEn (t : SemA) : SemI := fun δ μ k x => t δ μ (fun ds μ1 => match ds with
  | [.lst l] => k (enumFrom 0 l) μ1
  | _ => False) x
theorem di_enum {elts : List Expr} {kk : Nat} {tpos p : Pos} {t : SemA} (hg : Gl X "enumerate") (hm : X.mg "enumerate" = none) (ha : DA 0 X T B W [e] t) (hs : starEach [e] X.env = [(false, eval e X.env)] := by rfl) :
    DI m X T B W (.Tuple elts kk tpos) (.Call (.Name "enumerate" p) [e] [] pos) (iEn t) :=
  QI.weak (qi_of (pi_enum hg hm ha.pa hs)) fun σ H R ⟨G, δ, μ, k, xx, w, q, hk, hx⟩ => ⟨G, δ, μ, _, xx, w, q, fun ds μ1 q1 vs G1 H1 w1 x1 ok => by
    split at q1
    · obtain ⟨v, rfl, r⟩ := repL1 ok
      simp only [Rep] at r
      obtain ⟨a, vs, rfl, f, h1, h2⟩ := r
      exact ⟨a, vs, rfl, .of h1, hk _ _ q1 _ G1 H1 w1 x1 (good_enum f (.inl h1) h2)⟩
    · exact q1.elim, hx⟩
def zipD (ds es : List D) : List D := List.zipWith (fun a b => .tup [a, b]) ds es
theorem good_zip {K : PySem.W.Frag} {G : Gh} {H : Hp} {a b : Addr} {vs us : List V} {ds es : List D} (f : G.F a) (h : Rd H a (.lst vs)) (r : RepL K T G H ds vs) (f' : G.F b) (h' : Rd H b (.lst us)) (r' : RepL K T G H es us) : GoodIt K T B (Itz K a b) G H (zipD ds es) := fun i G' μ' H' σ' δ' w k => by
  have hq := sqL_kp (K := K) k f h
  have hq' := sqL_kp (K := K) k f' h'
  refine ⟨fun d hd => ?_, fun hi => ⟨vs, us, hq, hq', ?_⟩⟩
  · simp only [zipD, List.getElem?_zipWith_eq_some] at hd
    obtain ⟨d1, d2, hd1, hd2, rfl⟩ := hd
    obtain ⟨v, e1, r1⟩ := r.get hd1
    obtain ⟨u, e2, r2⟩ := r'.get hd2
    refine ⟨⟨vs, us, v, u, hq, hq', e1, e2⟩, fun x H'' y => ?_⟩
    obtain ⟨A, v', u', rfl, hA, rfl, y1, y2⟩ := y
    have := y1 vs hq
    rw [e1] at this; cases this
    have := y2 us hq'
    rw [e2] at this; cases this
    obtain ⟨G2, w2, x2, ok, _⟩ := w.newT hA (ds := [d1, d2]) (vs := [v, u]) (.cons (Rep.kp k _ _ r1) (.one (Rep.kp k _ _ r2)))
    exact ⟨G2, w2, x2, ok⟩
  · rw [r.length, r'.length]
    simp only [zipD, List.length_zipWith] at hi
    omega
def iZp (t : SemA) : SemI := fun δ μ k x => t δ μ (fun ds μ1 => match ds with
  | [.lst l, .lst l'] => k (zipD l l') μ1
  | _ => False) x
theorem di_zip {elts : List Expr} {kk : Nat} {tpos p : Pos} {t : SemA} (hg : Gl X "zip") (hm : X.mg "zip" = none) (ha : DA 0 X T B W [a, b] t)
    (hs : starEach [a, b] X.env = (false, eval a X.env) :: starEach [b] X.env := by rfl) (hpl : (backTo pos (starEach [b] X.env)).any (·.1) = false := by rfl) :
    DI m X T B W (.Tuple elts kk tpos) (.Call (.Name "zip" p) [a, b] [] pos) (iZp t) :=
  QI.weak (qi_of (pi_zip hg hm ha.pa hs hpl)) fun σ H R ⟨G, δ, μ, k, xx, w, q, hk, hx⟩ => ⟨G, δ, μ, _, xx, w, q, fun ds μ1 q1 vs G1 H1 w1 x1 ok => by
    split at q1
    · obtain ⟨v, u, rfl, r, r'⟩ := repL2 ok
      simp only [Rep] at r r'
      obtain ⟨a, vs, rfl, f, h1, h2⟩ := r
      obtain ⟨b, us, rfl, f', h1', h2'⟩ := r'
      exact ⟨a, b, vs, us, rfl, .of h1, .of h1', hk _ _ q1 _ G1 H1 w1 x1 (good_zip f (.inl h1) h2 f' (.inl h1') h2')⟩
    · exact q1.elim, hx⟩
end
end L3

namespace L3
open PySem PySem.Spec L2
open PyProof.Rows hiding St
set_option autoImplicit false

/-! ### dicts put together -/
def putD (ks : List DK) (vs : List D) (j : DK) (d : D) : List DK × List D := if ks.any (fun k => decide (k = j)) = true then (ks, setK ks vs j d) else (ks ++ [j], vs ++ [d])
def mergeD : List DK → List D → List (DK × D) → List DK × List D
  | ks, vs, [] => (ks, vs)
  | ks, vs, (j, d) :: r => mergeD (putD ks vs j d).1 (putD ks vs j d).2 r
section
variable {K : PySem.W.Frag} {T : Tab} {G : Gh} {H : Hp}
theorem mem_keys {ks : List DK} {kvs : List (Key × V)} (h : kvs.map (·.1) = ks.map DK.key) (j : DK) : (kvs.any fun kv => decide (kv.1 = j.key)) = ks.any (fun k => decide (k = j)) := by
  have : (kvs.any fun kv => decide (kv.1 = j.key)) = ((kvs.map (·.1)).any fun k => decide (k = j.key)) := by rw [List.any_map]; rfl
  rw [this, h, List.any_map]
  congr 1
  funext k
  show decide (k.key = j.key) = decide (k = j)
  by_cases e : k = j
  · rw [decide_eq_true e, decide_eq_true (by rw [e])]
  · rw [decide_eq_false e, decide_eq_false fun z => e (DK.key_inj z)]
theorem any_mem {ks : List DK} {j : DK} : ks.any (fun k => decide (k = j)) = true ↔ j ∈ ks := by
  rw [List.any_eq_true]
  exact ⟨fun ⟨x, h, e⟩ => by rw [← of_decide_eq_true e]; exact h, fun h => ⟨j, h, by simp⟩⟩
theorem map_put_keys {kvs : List (Key × V)} {k : Key} {v : V} : (kvs.map fun kv => if kv.1 = k then (kv.1, v) else kv).map (·.1) = kvs.map (·.1) := by
  rw [List.map_map]
  refine List.map_congr_left fun x _ => ?_
  show (if x.1 = k then (x.1, v) else x).1 = x.1
  split <;> rfl
theorem setK_none : ∀ {ks : List DK} {vs : List D} {j : DK} {d : D}, j ∉ ks → setK ks vs j d = vs
  | [], _, _, _, _ => by simp [setK]
  | k :: ks, [], _, _, _ => by simp [setK]
  | k :: ks, v :: vs, j, d, h => by
    simp only [List.mem_cons, not_or] at h
    simp only [setK, if_neg (fun e => h.1 (Eq.symm e) : ¬ k = j)]
    rw [setK_none h.2]
/-- all equal keys are written: as the keys are apart, once -/
theorem setK_rep {j : DK} {d : D} {v : V} (r : Rep K T G H d v) : ∀ {ks : List DK} {vs : List D} {kvs : List (Key × V)}, ks.Nodup → kvs.map (·.1) = ks.map DK.key → RepL K T G H vs (kvs.map (·.2)) →
    RepL K T G H (setK ks vs j d) ((kvs.map fun kv => if kv.1 = j.key then (kv.1, v) else kv).map (·.2))
  | [], vs, kvs, _, h, q => by
    have : kvs = [] := by simpa using h
    subst this
    cases vs <;> simpa [setK] using q
  | k :: ks, vs, kvs, nd, h, q => by
    cases kvs with
    | nil => simp at h
    | cons p kvs =>
      simp only [List.map_cons, List.cons.injEq] at h
      cases vs with
      | nil => simp only [RepL, List.map_cons, reduceCtorEq] at q
      | cons x xs =>
        simp only [List.map_cons, RepL, List.cons.injEq] at q
        obtain ⟨y, ys, ⟨rfl, rfl⟩, q1, q2⟩ := q
        have nd' := List.nodup_cons.mp nd
        by_cases hk : k = j
        · subst hk
          simp only [setK, if_pos rfl, List.map_cons, h.1]
          refine .cons r ?_
          have : (kvs.map fun kv => if kv.1 = k.key then (kv.1, v) else kv) = kvs := by
            refine (List.map_congr_left fun z hz => ?_).trans (List.map_id _)
            have : z.1 ∈ ks.map DK.key := by rw [← h.2]; exact List.mem_map_of_mem hz
            obtain ⟨j', hj', e⟩ := List.mem_map.mp this
            rw [if_neg fun e' => nd'.1 (by rw [← DK.key_inj (e.trans e')]; exact hj')]; rfl
          rw [this]; exact q2
        · simp only [setK, if_neg hk, List.map_cons]
          rw [if_neg (fun e => hk (DK.key_inj (h.1.symm.trans e)))]
          exact .cons q1 (setK_rep r nd'.2 h.2 q2)
theorem setK_len : ∀ (ks : List DK) (vs : List D) (j : DK) (d : D), (setK ks vs j d).length = vs.length
  | [], vs, _, _ => by simp [setK]
  | k :: ks, [], _, _ => by simp [setK]
  | k :: ks, v :: vs, j, d => by
    simp only [setK]
    split
    · rfl
    · simp only [List.length_cons, setK_len ks vs j d]
theorem putK_rep {j : DK} {d : D} {v : V} {ks : List DK} {vs : List D} {kvs : List (Key × V)} (nd : ks.Nodup) (h : kvs.map (·.1) = ks.map DK.key) (q : RepL K T G H vs (kvs.map (·.2))) (r : Rep K T G H d v) :
    (putD ks vs j d).1.Nodup ∧ (putK kvs j.key v).map (·.1) = (putD ks vs j d).1.map DK.key ∧ RepL K T G H (putD ks vs j d).2 ((putK kvs j.key v).map (·.2)) := by
  unfold putK putD
  rw [mem_keys h j]
  by_cases hm' : ks.any (fun k => decide (k = j)) = true
  · rw [if_pos hm', if_pos hm']
    exact ⟨nd, by rw [map_put_keys]; exact h, setK_rep r nd h q⟩
  · rw [if_neg hm', if_neg hm']
    have hm : j ∉ ks := fun z => hm' (any_mem.mpr z)
    refine ⟨?_, ?_, ?_⟩
    · rw [List.nodup_append]
      exact ⟨nd, by simp, fun a ha b hb z => by
        have : b = j := by simpa using hb
        subst this; subst z; exact hm ha⟩
    · rw [List.map_append, List.map_append, h]; rfl
    · rw [List.map_append]; exact q.append (.one r)
theorem merge_rep : ∀ {ps : List (DK × D)} {us : List V} {ks : List DK} {vs : List D} {kvs : List (Key × V)}, RepL K T G H (ps.map (·.2)) us → ks.Nodup → kvs.map (·.1) = ks.map DK.key → RepL K T G H vs (kvs.map (·.2)) →
    (mergeK kvs (List.zipWith (fun (p : DK × D) u => (p.1.key, u)) ps us)).map (·.1) = (mergeD ks vs ps).1.map DK.key ∧ RepL K T G H (mergeD ks vs ps).2 ((mergeK kvs (List.zipWith (fun (p : DK × D) u => (p.1.key, u)) ps us)).map (·.2))
  | [], us, ks, vs, kvs, _, nd, h, q => ⟨h, q⟩
  | (j, d) :: ps, us, ks, vs, kvs, r, nd, h, q => by
    simp only [List.map_cons, RepL] at r
    obtain ⟨y, ys, rfl, r1, r2⟩ := r
    obtain ⟨n1, h1, q1⟩ := putK_rep (j := j) nd h q r1
    exact merge_rep (ps := ps) r2 n1 h1 q1
end

section
variable {m : Nat} {X : Cx} {T : Tab} {B : Bs} {W : WX} {a b c e o : Expr} {es : List Expr} {pos : Pos}
/-! ### text * int -/
def opMul' : OpF := fun μ d e k => match d, e with
  | .str s, .int n => 0 ≤ n ∧ n ≤ 10000 ∧ s.length * n.toNat ≤ sizeLine ∧ k (.v (.str (List.replicate n.toNat s).flatten))
  | d, e => opMul μ d e k
theorem rep_cps (s : List Nat) : ∀ (n : Nat) (acc : Array Nat), (List.replicate n s.toArray).foldl (· ++ ·) acc = acc ++ ((List.replicate n s).flatten).toArray
  | 0, acc => by simp
  | n + 1, acc => by
    rw [List.replicate_succ, List.replicate_succ, List.foldl_cons, rep_cps s n, List.flatten_cons]
    simp [Array.append_assoc]
theorem d_mul' : OpD X T (binaryOp .Mult) opMul' := by
  refine ⟨fun B pins s σ0 H x y v u Q I rx ry hh => ?_⟩
  obtain ⟨G, μ, σ, δ, d, e, k, w, rd, re, o, hk⟩ := hh
  unfold opMul' at o
  split at o
  · rename_i t n
    obtain ⟨n0, n1, hl, o⟩ := o
    simp only [Rep] at rd re
    obtain ⟨rfl, h1, h2⟩ := rd
    subst re
    obtain ⟨tk, rfl⟩ := rx
    obtain ⟨tk', rfl⟩ := ry
    have fin : ∀ v' s', Inv X pins σ0 H s' → RelV (.str (strOf (List.replicate n.toNat t).flatten)) v' → EP X pins σ0 Q v' s' := fun v' s' I' r => ⟨_, H, I', r, val_of w hk o (by
      simp only [Rep]
      refine ⟨trivial, by simpa [Nat.mul_comm] using hl, fun c hc => ?_⟩
      obtain ⟨l, hl', hc'⟩ := List.mem_flatten.mp hc
      rw [(List.mem_replicate.mp hl').2] at hc'
      exact h2 c hc')⟩
    refine P.mul_str (by rw [decide_eq_false (by omega), decide_eq_false (by omega)]; rfl) (fun h1' _ => ?_) (fun _ _ => ?_) ?_
    · have hq : (strOf t).length ≤ sizeLine := by rw [strOf_length]; exact h1
      rw [sizeLine_eq] at hq
      intro hgt
      have hpos : 0 < n := by omega
      have := (Int.ediv_lt_iff_lt_mul (a := 2 ^ 63 - 1) (b := ((strOf t).length : Int)) hpos).mp hgt
      have h3 : ((strOf t).length : Int) * n ≤ ((strOf t).length : Int) * 10000 := Int.mul_le_mul_of_nonneg_left n1 (by omega)
      omega
    · unfold Builtin.Str.tooLong
      rw [decide_eq_false]
      rw [strOf_length]; omega
    · split
      · rename_i h0
        refine ⟨by decide, fin _ _ (I.tok _) ⟨s.toks, ?_⟩⟩
        have : n.toNat = 0 := by omega
        rw [this]; rfl
      · split
        · rename_i h0 h3
          refine fin _ _ I ⟨tk, ?_⟩
          simp only [Bool.or_eq_true, beq_iff_eq] at h3
          rcases h3 with h3 | h3
          · subst h3; simp [strOf]
          · rw [strOf_length] at h3
            have : t = [] := List.eq_nil_of_length_eq_zero h3
            subst this
            simp [strOf]
        · refine ⟨?_, fin _ _ (I.tok _) ⟨s.toks, ?_⟩⟩
          · show (Array.size _) ≤ _
            rw [show (strOf t).cps = t.toArray from rfl, rep_cps]
            simpa [Nat.mul_comm] using hl
          · rw [show (strOf t).cps = t.toArray from rfl, rep_cps]
            simp [strOf]
  · exact d_mul.run B pins s σ0 H x y v u Q I rx ry ⟨G, μ, σ, δ, _, _, k, w, rd, re, o, hk⟩
end
end L3

namespace L3
open PySem PySem.Spec L2
open PyProof.Rows hiding St
set_option autoImplicit false
section
variable {m : Nat} {X : Cx} {T : Tab} {B : Bs} {W : WX} {a b c e o i : Expr} {es : List Expr} {pos : Pos}

/-! ### displays -/
def pSem : List (DK × Sem') → Env' → Mu → (List (DK × D) → Mu → Prop) → KX → Prop
  | [] => fun _ μ k _ => k [] μ
  | (j, g) :: r => fun δ μ k x => g δ μ (fun v μ1 => pSem r δ μ1 (fun ps μ2 => k ((j, v.d) :: ps) μ2) x) x
abbrev DPr (X : Cx) (T : Tab) (B : Bs) (W : WX) (pos : Pos) (keys : List (Option Expr)) (values : List Expr) (ps : List (DK × Sem')) : Prop :=
  PPs X pos keys values (ps.map fun p => (tC (kV p.1.key), tD X.K T B W p.2))
theorem dpr_nil : DPr X T B W pos [] [] [] := pps_nil
theorem dpr_cons {k v : Expr} {ks : List (Option Expr)} {vs : List Expr} {j : DK} {g : Sem'} {ps : List (DK × Sem')} (hk : PE X k (tC (kV j.key))) (hv : DV 0 X T B W v g) (hr : DPr X T B W pos ks vs ps) : DPr X T B W pos (some k :: ks) (v :: vs) ((j, g) :: ps) :=
  pps_cons hk hv.pe hr
theorem pairs_core {x : KX} {σ : St} {δ : Env'} (tk : ∀ e μ', x e μ' → ∀ G' H' cls od, Wf X.K T B G' μ' H' σ δ → ExcOk X.K T G' H' e cls od → W cls od σ H') : ∀ (ps : List (DK × Sem')) {G : Gh} {μ : Mu} {k : List (DK × D) → Mu → Prop} {H : Hp} {Q : List (V × V) → Hp → Prop}, Wf X.K T B G μ H σ δ → pSem ps δ μ k x →
    (∀ qs μ', k qs μ' → ∀ us G' H', Wf X.K T B G' μ' H' σ δ → Ext G H G' H' → RepL X.K T G' H' (qs.map (·.2)) us → Q (List.zipWith (fun (q : DK × D) u => (kV q.1.key, u)) qs us) H') → tPairs (ps.map fun p => (tC (kV p.1.key), tD X.K T B W p.2)) σ H Q
  | [], G, μ, k, H, Q, w, q, hk => hk [] μ q [] G H w w.same .nil
  | (j, g) :: ps, G, μ, k, H, Q, w, q, hk => by
    refine ⟨G, δ, μ, _, x, w, q, fun r μ1 q1 v1 G1 H1 w1 x1 r1 => ?_, tk⟩
    exact pairs_core tk ps w1 q1 fun qs μ' h us G' H' w' x' rr => hk _ _ h (v1 :: us) G' H' w' (x1.trans x') (.cons (Rep.kp (x'.kp w1.g) _ _ r1) rr)
/-- {k: v, ..}: a new cell -/
def eDct (ps : List (DK × Sem')) : Sem' := fun δ μ k x => pSem ps δ μ (fun qs μ1 => qs.length ≤ 15 ∧ k (.v (.loc μ1.length)) (μ1 ++ [.dct (mergeD [] [] qs).1 (mergeD [] [] qs).2])) x
def eDctF (ps : List (DK × Sem')) : Sem' := fun δ μ k x => pSem ps δ μ (fun qs μ1 => qs.length ≤ 15 ∧ k (.v (.dct (mergeD [] [] qs).1 (mergeD [] [] qs).2)) μ1) x
theorem zip_kvs (qs : List (DK × D)) (us : List V) : List.zipWith (fun (q : DK × D) u => (kV q.1.key, u)) qs us = (List.zipWith (fun (p : DK × D) u => (p.1.key, u)) qs us).map fun kv => (kV kv.1, kv.2) := by
  rw [List.map_zipWith]
theorem disp_core {ps : List (DK × Sem')} {σ : St} {H : Hp} {Q : VK} {G : Gh} {δ : Env'} {μ : Mu} {x : KX} {k : List (DK × D) → Mu → Prop} (w : Wf X.K T B G μ H σ δ) (q : pSem ps δ μ (fun qs μ1 => qs.length ≤ 15 ∧ k qs μ1) x)
    (tk : ∀ e μ', x e μ' → ∀ G' H' cls od, Wf X.K T B G' μ' H' σ δ → ExcOk X.K T G' H' e cls od → W cls od σ H')
    (hk : ∀ qs μ1, k qs μ1 → ∀ p kvs G1 H1, Wf X.K T B G1 μ1 H1 σ δ → Ext G H G1 H1 → Fresh G H G1 H1 p → H1 p = some (.dK kvs) → kvs.map (·.1) = (mergeD [] [] qs).1.map DK.key → RepL X.K T G1 H1 (mergeD [] [] qs).2 (kvs.map (·.2)) → Q (.ref p) H1) :
    tDisp (ps.map fun p => (tC (kV p.1.key), tD X.K T B W p.2)) σ H Q := fun p hp => by
  obtain ⟨w0, x0, pf, pi⟩ := w.allocO hp (.dK [])
  have f0 : Fresh G H G (upd H p (.dK [])) p := ⟨hp, pf, pi⟩
  refine pairs_core tk ps w0 q fun qs μ1 h us G1 H1 w1 x1 rr => ?_
  obtain ⟨f1, e1⟩ := f0.later upd_same x1
  refine ⟨e1, _, zip_kvs qs us, ?_, ?_⟩
  · rw [List.length_zipWith]
    have := h.1
    omega
  · obtain ⟨w2, x2, k2⟩ := Wf.wrF w w1 (x0.trans x1) f1 (.dK (mergeK [] (List.zipWith (fun (p : DK × D) u => (p.1.key, u)) qs us)))
    obtain ⟨m1, m2⟩ := merge_rep rr (ks := []) (vs := []) (kvs := []) List.nodup_nil rfl .nil
    exact hk _ _ h.2 p _ G1 _ w2 x2 ⟨hp, f1.nf, f1.ni⟩ upd_same m1 (RepL.kp k2 _ _ m2)
theorem de_dct {keys : List (Option Expr)} {values : List Expr} {ps : List (DK × Sem')} (h : DPr X T B W pos keys values ps) (hall : keys.all (·.isSome) = true := by rfl) (hl : keys.length = values.length := by rfl) (h0 : keys ≠ [] := by exact fun z => by cases z)
    (h15 : keys.length ≤ 15 := by decide) : DE m X T B W (.Dict keys values pos) (eDct ps) :=
  QE.weak (qe_of (pe_disp h hall hl h0 h15)) fun σ H Q ⟨G, δ, μ, k, xx, w, q, hk, hx⟩ => disp_core w q hx fun qs μ1 h p kvs G1 H1 w1 x1 f1 e1 m1 m2 => by
    obtain ⟨w3, x3, k3, r3⟩ := Wf.toC w w1 x1 f1 (c := .dct (mergeD [] [] qs).1 (mergeD [] [] qs).2) ⟨kvs, e1, m1, m2⟩
    exact hk _ _ h _ _ _ w3 x3 r3 .v
theorem de_dctF {keys : List (Option Expr)} {values : List Expr} {ps : List (DK × Sem')} (h : DPr X T B W pos keys values ps) (hall : keys.all (·.isSome) = true := by rfl) (hl : keys.length = values.length := by rfl) (h0 : keys ≠ [] := by exact fun z => by cases z)
    (h15 : keys.length ≤ 15 := by decide) : DE m X T B W (.Dict keys values pos) (eDctF ps) :=
  QE.weak (qe_of (pe_disp h hall hl h0 h15)) fun σ H Q ⟨G, δ, μ, k, xx, w, q, hk, hx⟩ => disp_core w q hx fun qs μ1 h p kvs G1 H1 w1 x1 f1 e1 m1 m2 => by
    obtain ⟨w3, x3, k3⟩ := Wf.toF w w1 x1 f1 e1
    refine hk _ _ h _ _ _ w3 x3 ?_ .v
    show Rep X.K T _ _ (.dct _ _) _
    simp only [Rep]
    exact ⟨p, kvs, rfl, .inr rfl, e1, m1, RepL.kp k3 _ _ m2⟩
/-- {} -/
theorem de_dct0 : DE m X T B W (.Dict [] [] pos) (eC (.dct [] [])) := QE.weak (qe_of pe_dnewK) fun σ H Q ⟨G, δ, μ, k, xx, w, q, hk, hx⟩ => fun p hp => by
  obtain ⟨w', x'⟩ := w.allocF hp (.dK [])
  refine hk _ _ q _ _ _ w' x' ?_ .v
  show Rep X.K T _ _ (.dct [] []) _
  simp only [Rep]
  exact ⟨p, [], rfl, .inr rfl, upd_same, rfl, .nil⟩

/-! ### d[k] = v for a cell -/
def sPut (gd gk gv : Sem') : SSem := fun δ μ D => gv δ μ (fun r μ1 => gd δ μ1 (fun s μ2 => gk δ μ2 (fun t μ3 => match s.d, t.d.dk with
  | .loc n, some j => match μ3[n]? with
    | some (.dct ks vs) => ks.length < sizeLine ∧ ks.Nodup ∧ D.nx δ (μ3.set n (.dct (putD ks vs j r.d).1 (putD ks vs j r.d).2))
    | _ => False
  | _, _ => False) fun e μ' => D.ex e δ μ') fun e μ' => D.ex e δ μ') fun e μ' => D.ex e δ μ'
theorem ds_put {gd gk gv : Sem'} {pos' : Pos} (hu : X.A.units + 1 < cLine) (hd : DV 0 X T B W o gd) (hk : DV 0 X T B W i gk) (hv : DV 0 X T B W e gv) (hs : swapsWith e (some (.Subscript o i pos')) pos.line X.env = pure false := by rfl) :
    DS m X T B W (.Assign [.Subscript o i pos'] e pos) (sPut gd gk gv) :=
  QS.weak (qs_of (ps_dput hu hd.pe hk.pe hv.pe hs)) fun Q σ H ⟨G, δ, μ, D, w, q, en⟩ => ⟨G, δ, μ, _, _, w, q, fun r μ1 q1 v1 G1 H1 w1 x1 r1 => ⟨G1, δ, μ1, _, _, w1, q1, fun s μ2 q2 v2 G2 H2 w2 x2 r2 => ⟨G2, δ, μ2, _, _, w2, q2, fun t μ3 q3 v3 G3 H3 w3 x3 r3 => by
    split at q3
    · rename_i n j hs hj
      split at q3
      · rename_i ks vs hm
        have rs := Rep.kp (x3.kp w2.g) _ _ r2
        have rr := Rep.kp ((x2.trans x3).kp w1.g) _ _ r1
        rw [hs] at rs
        simp only [Rep] at rs
        obtain ⟨p, rfl, hn⟩ := rs
        obtain ⟨kv, e1, e2, e3⟩ := w3.g.ce n p _ hn hm
        have hl : kv.length = ks.length := by simpa using congrArg List.length e2
        obtain ⟨_, p1, p2⟩ := putK_rep (j := j) q3.2.1 e2 e3 rr
        rw [dk_rep r3 hj]
        refine ⟨p, _, rfl, .k e1 (by rw [hl]; exact q3.1), ?_⟩
        obtain ⟨w4, k4, x4⟩ := w3.wrC (c := .dct (putD ks vs j r.d).1 (putD ks vs j r.d).2) (u := .dK (putK kv j.key v1)) hn fun G' H' k' e' => ⟨_, e', p1, RepL.kp k' _ _ p2⟩
        exact en.nx _ _ q3.2.2 _ _ _ w4 (((x1.trans x2).trans x3).kp w.g |>.trans k4)
      · exact q3.elim
    · exact q3.elim, xs_of en⟩, xs_of en⟩, xs_of en⟩

/-! ### xs.pop(0) for a cell -/
def ePop0 (gd ga : Sem') : Sem' := fun δ μ k x => gd δ μ (fun r μ1 => match r.d with
  | .loc n => match μ1[n]? with
    | some (.lst _) => ga δ μ1 (fun t μ2 => match t.d with
      | .int 0 => match μ2[n]? with
        | some (.lst (d :: ds)) => k (.v d) (μ2.set n (.lst ds))
        | _ => False
      | _ => False) x
    | _ => False
  | _ => False) x
theorem de_pop0 {gd ga : Sem'} {p1 p2 : Pos} (hd : DV m X T B W o gd) (ha : DV m X T B W e ga) (hbase : attributeBase o "pop" X.env (eval o X.env) = eval o X.env := by rfl) (hs : starEach (e :: []) X.env = (false, eval e X.env) :: starEach [] X.env := by rfl)
    (hfew : ((backTo p2 (starEach (e :: []) X.env)).all (fun x => !x.1) && (backToKw p2 (keywordEach [] X.env)).all (fun x => x.1.isSome)
      && decide ((e :: []).length + ([] : List Keyword).length + (if ([] : List Keyword).isEmpty then 0 else 1) < 30)) = true := by rfl) (hline : (p1.endLine == p2.line) = true := by rfl) :
    DE m X T B W (.Call (.Attribute o "pop" p1) [e] [] p2) (ePop0 gd ga) :=
  QE.weak (qe_bm PySem.F.plainAttrs_list PySem.F.slot_list_pop PySem.F.type_list_pop mt_popAt hd (qa_cons ha qa_nil hs) hbase hfew hline hs (by rfl)) fun σ H Q ⟨G, δ, μ, k, xx, w, q, hk, hx⟩ =>
    ⟨G, δ, μ, _, _, w, q, fun r μ1 q1 v1 G1 H1 w1 x1 r1 => by
      split at q1
      · rename_i n hr
        split at q1
        · rename_i es0 hm1
          rw [hr] at r1
          have ty : tyV X.K "list" v1 H1 := by
            simp only [Rep] at r1
            obtain ⟨p, rfl, hn⟩ := r1
            obtain ⟨vs, e1, e2⟩ := w1.g.ce n p _ hn hm1
            exact .inl ⟨rfl, vs, .of e1⟩
          refine ⟨ty, G1, δ, μ1, _, _, w1, q1, fun t μ2 q2 v2 G2 H2 w2 x2 r2 => ?_, hx⟩
          split at q2
          · rename_i ht
            split at q2
            · rename_i d ds hm2
              have rs := Rep.kp (x2.kp w1.g) _ _ r1
              rw [ht] at r2
              simp only [Rep] at rs r2
              obtain ⟨p, rfl, hn⟩ := rs
              obtain ⟨vs, e1, e2⟩ := w2.g.ce n p _ hn hm2
              simp only [RepL] at e2
              obtain ⟨y, ys, rfl, y1, y2⟩ := e2
              subst r2
              refine ⟨p, _, 0, 0, y, rfl, rfl, e1, by decide, by decide, by simp [seqIndex?], rfl, ?_⟩
              obtain ⟨w4, k4, x4⟩ := w2.wrC (c := .lst ds) (u := .lst ys) hn fun G' H' k' e' => ⟨_, e', RepL.kp k' _ _ y2⟩
              exact hk _ _ q2 _ _ _ w4 ((x1.trans x2).trans x4) (Rep.kp k4 _ _ y1) .v
            · exact q2.elim
          · exact q2.elim
        · exact q1.elim
      · exact q1.elim, hx⟩
end
end L3

namespace L3
open PySem PySem.Spec L2
open PyProof.Rows hiding St
set_option autoImplicit false
section
variable {m : Nat} {X : Cx} {T : Tab} {B : Bs} {W : WX} {a b c e o i : Expr} {es : List Expr} {pos pos2 p p' : Pos}
/-- dict(zip(a, b)), two lists -/
def tDZ (K : PySem.W.Frag) (t : TA) : TE := fun σ H Q => t σ H fun vs H1 => ∃ (a b : Addr) (ks : List Key) (ys : List V), vs = [.ref a, .ref b] ∧ SqL K H1 a (ks.map kV) ∧ SqL K H1 b ys ∧
  ∀ p, H1 p = none → Q (.ref p) (upd H1 p (.dK (mergeK [] (ks.zip ys))))
theorem vals_get : ∀ {xs : List V} {us : List Value} {i : Nat} {u : Value}, Vals xs us → us[i]? = some u → ∃ x, xs[i]? = some x ∧ RelV x u
  | _, _, _, _, .nil, e => by simp at e
  | _, _, 0, _, .cons a r, e => by simp at e; subst e; exact ⟨_, rfl, a⟩
  | _, _, i + 1, _, .cons a r, e => by
    obtain ⟨x, e1, e2⟩ := vals_get (i := i) r (by simpa using e)
    exact ⟨x, by simpa using e1, e2⟩
theorem kv_zip : ∀ {ks : List Key} {ys : List V} {us : List Value}, Vals ys us → KV (ks.zip ys) (ks.zip us)
  | [], _, _, _ => by simp only [List.zip_nil_left]; exact .nil
  | k :: ks, _, _, .nil => by simp only [List.zip_nil_right]; exact .nil
  | k :: ks, _, _, .cons a r => by simp only [List.zip_cons_cons]; exact .cons ⟨rfl, a⟩ (kv_zip r)
theorem qe_dictzip {t : TA} (hc : X.calm = true) (hg : Gl X "zip") (hm : X.mg "zip" = none) (hgd : Gl X "dict") (hmd : X.mg "dict" = none) (hvd : bootBuiltins "dict" = some (.type "dict")) (ha : QA m X [a, b] t)
    (hs : starEach [a, b] X.env = (false, eval a X.env) :: starEach [b] X.env := by rfl) (hpl : (backTo pos2 (starEach [b] X.env)).any (·.1) = false := by rfl)
    (hs' : starEach [.Call (.Name "zip" p') [a, b] [] pos2] X.env = [(false, eval (.Call (.Name "zip" p') [a, b] [] pos2) X.env)] := by rfl) :
    QE m X (.Call (.Name "dict" p) [.Call (.Name "zip" p') [a, b] [] pos2] [] pos) (tDZ X.K t) := by
  refine ⟨fun pins z σ H Y hz I q => ?_⟩
  refine wpAny_Call_Name_kw (ld_blt I hgd hmd hvd (PyProof.Rows.callWith_type1 (Calls.spliced_cons ?_) hs' (by rfl)))
  refine Call_ (ld_blt I hg hm PyProof.Rows.boot_zip (PyProof.Rows.callWith_type1 (thm hz (ha.run pos2 pins z σ H _ hz I q) fun us s1 h1 ⟨vs, H1, I1, r1, q1⟩ => ?_) hs hpl))
  obtain ⟨a, b, ks, ys, ex, hqx, hqy, q⟩ := q1
  subst ex
  obtain ⟨u, u', rfl, ra, rb⟩ := vals2 r1
  cases ra
  cases rb
  obtain ⟨its, rv, p1, l1⟩ := I1.list hqx
  obtain ⟨its2, rv2, p2, _⟩ := I1.list hqy
  refine call_zip_2 p1.isList p2.isList fun h' hz hTI hTO h1 h2 hsz hk => ?_
  refine Calls.spliced_nil ?_
  have keep1 : ∀ c o, s1.heap.get? c = some o → h'.get? c = some o := hk
  refine PySem.call_dict_pairs (knd := mixKind X.prog X.w) (kvs := ks.zip its2) (PairArg.zip _ _ _ _ _ a b (PySem.W.ktu_apart s1.heap.objs.size a b p1.lt p2.lt) its.toArray its2.toArray) (I.ok.hd hc)
    ⟨hz, hTI, ⟨_, _, hTO⟩, h1, h2, p1.isList.at fun o e => hk _ o e, p2.isList.at fun o e => hk _ o e⟩ ⟨?_, fun i key v hkv => ?_⟩ ?_ fun h2' tk hd' hk' => ?_
  · have := rv.length
    rw [List.length_map] at this
    simp only [List.length_zip, List.size_toArray]
    omega
  · have e1 : its[i]? = some key := by simpa using hkv.1
    have e2 : its2[i]? = some v := by simpa using hkv.2
    obtain ⟨x, ex, rx⟩ := vals_get rv e1
    rw [List.getElem?_map] at ex
    cases hk0 : ks[i]? with
    | none => rw [hk0] at ex; cases ex
    | some k0 =>
      rw [hk0] at ex
      cases ex
      exact ⟨k0, List.getElem?_zip_eq_some.mpr ⟨hk0, e2⟩, kV_is rx⟩
  · have := rv.length
    rw [List.length_map] at this l1
    simp only [List.size_toArray]
    omega
  · have big := I1.big
    have hm' : (h'.objs.size == sysModules) = false := beq_eq_false_iff_ne.mpr (by rw [hsz]; exact Nat.ne_of_gt (Nat.lt_of_lt_of_le I1.big (Nat.le_add_right _ _)))
    have rel : KV (ks.zip ys) (ks.zip its2) := kv_zip rv2
    have hlen : (mergeK [] (ks.zip ys)).length ≤ sizeLine := by
      refine Nat.le_trans (length_mergeK (ks.zip ys) []) ?_
      rw [List.length_map] at l1
      rw [List.length_nil, Nat.zero_add, List.length_zip]
      omega
    have kk : ∀ c o, s1.heap.get? c = some o → h2'.get? c = some o := fun c o e => by
      have hl := Heap.lt_size e
      refine hk' c o (fun hm => ?_) (hk c o e)
      simp only [List.mem_cons, List.not_mem_nil, or_false] at hm
      rcases hm with e | e | e | e <;> rw [e] at hl <;> first | exact absurd hl (Nat.not_lt.mpr (Nat.le_add_right _ _)) | exact absurd hl (Nat.lt_irrefl _)
    exact ⟨.ref h'.objs.size, upd H1 h'.objs.size (.dK (mergeK [] (ks.zip ys))), I1.laid (t' := tk) kk (by rw [hsz]; omega) (show ObjOk X.prog X.w _ _ _ (.dK (mergeK [] (ks.zip ys))) from ⟨hlen, hm', merged [] (ks.zip its2), KV.merge rel .nil, hd'⟩), rfl, q _ (I1.hok.fresh (by rw [hsz]; omega))⟩
def dkL : List D → Option (List DK)
  | [] => some []
  | d :: ds => d.dk.bind fun k => (dkL ds).map (k :: ·)
theorem dkL_rep {G : Gh} {H : Hp} : ∀ {ds : List D} {vs : List V} {ks : List DK}, RepL X.K T G H ds vs → dkL ds = some ks → vs = (ks.map DK.key).map kV
  | [], vs, ks, r, e => by cases e; simp only [RepL] at r; rw [r]; rfl
  | d :: ds, vs, ks, r, e => by
    simp only [RepL] at r
    obtain ⟨y, ys, rfl, r1, r2⟩ := r
    simp only [dkL, Option.bind_eq_some_iff, Option.map_eq_some_iff] at e
    obtain ⟨k, e1, ks', e2, rfl⟩ := e
    rw [dk_rep r1 e1, dkL_rep r2 e2]; rfl
/-- dict(zip(a, b)) laid down for good -/
def eDZ (t : SemA) : Sem' := fun δ μ k x => t δ μ (fun ds μ1 => match ds with
  | [.lst l, .lst l'] => match dkL l with
    | some ks => k (.v (.dct (mergeD [] [] (ks.zip l')).1 (mergeD [] [] (ks.zip l')).2)) μ1
    | none => False
  | _ => False) x
theorem zip_eq {ks : List DK} {us : List V} : ∀ {l : List D}, l.length = us.length → List.zipWith (fun (p : DK × D) u => (p.1.key, u)) (ks.zip l) us = (ks.map DK.key).zip us := by
  intro l
  induction ks generalizing l us with
  | nil => intro _; rfl
  | cons k ks ih =>
    intro h
    cases l with
    | nil => cases us with
      | nil => rfl
      | cons u us => simp at h
    | cons d l => cases us with
      | nil => simp at h
      | cons u us =>
        simp only [List.zip_cons_cons, List.zipWith_cons_cons, List.map_cons]
        rw [ih (by simpa using h)]
theorem repL_zip {G : Gh} {H : Hp} : ∀ {ks : List DK} {l : List D} {us : List V}, RepL X.K T G H l us → RepL X.K T G H ((ks.zip l).map (·.2)) (us.take ks.length)
  | [], _, _, _ => by simp only [List.zip_nil_left, List.map_nil, List.length_nil, List.take_zero]; exact .nil
  | k :: ks, [], us, r => by simp only [RepL] at r; subst r; simp only [List.zip_nil_right, List.map_nil, List.take_nil]; exact .nil
  | k :: ks, d :: l, us, r => by
    simp only [RepL] at r
    obtain ⟨y, ys, rfl, r1, r2⟩ := r
    simp only [List.zip_cons_cons, List.map_cons, List.length_cons, List.take_succ_cons]
    exact .cons r1 (repL_zip r2)
theorem zip_take {α β : Type} : ∀ (ks : List α) (us : List β), ks.zip (us.take ks.length) = ks.zip us
  | [], _ => rfl
  | k :: ks, [] => rfl
  | k :: ks, u :: us => by simp [zip_take ks us]
theorem zipWith_take {κ : Type} (f : DK × D → V → κ) : ∀ (ks : List DK) (l : List D) (us : List V), List.zipWith f (ks.zip l) (us.take ks.length) = List.zipWith f (ks.zip l) us
  | [], _, _ => rfl
  | k :: ks, [], us => rfl
  | k :: ks, d :: l, [] => rfl
  | k :: ks, d :: l, u :: us => by simp [zipWith_take f ks l us]
theorem de_dictzip {t : SemA} (hc : X.calm = true) (hg : Gl X "zip") (hm : X.mg "zip" = none) (hgd : Gl X "dict") (hmd : X.mg "dict" = none) (hvd : bootBuiltins "dict" = some (.type "dict")) (ha : DA m X T B W [a, b] t)
    (hs : starEach [a, b] X.env = (false, eval a X.env) :: starEach [b] X.env := by rfl) (hpl : (backTo pos2 (starEach [b] X.env)).any (·.1) = false := by rfl)
    (hs' : starEach [.Call (.Name "zip" p') [a, b] [] pos2] X.env = [(false, eval (.Call (.Name "zip" p') [a, b] [] pos2) X.env)] := by rfl) :
    DE m X T B W (.Call (.Name "dict" p) [.Call (.Name "zip" p') [a, b] [] pos2] [] pos) (eDZ t) :=
  QE.weak (qe_dictzip hc hg hm hgd hmd hvd ha hs hpl hs') fun σ H Q ⟨G, δ, μ, k, xx, w, q, hk, hx⟩ => ⟨G, δ, μ, _, xx, w, q, fun ds μ1 q1 vs G1 H1 w1 x1 ok => by
    split at q1
    · rename_i l l'
      split at q1
      · rename_i ks hks
        obtain ⟨v, u, rfl, r, r'⟩ := repL2 ok
        simp only [Rep] at r r'
        obtain ⟨a, vs, rfl, f, h1, h2⟩ := r
        obtain ⟨b, us, rfl, f', h1', h2'⟩ := r'
        have ev := dkL_rep h2 hks
        subst ev
        refine ⟨a, b, ks.map DK.key, us, rfl, .of h1, .of h1', fun p hp => ?_⟩
        obtain ⟨m1, m2⟩ := merge_rep (repL_zip (ks := ks) h2') (ks := []) (vs := []) (kvs := []) List.nodup_nil rfl .nil
        rw [zipWith_take, zip_eq h2'.length.symm] at m1 m2
        obtain ⟨w', x'⟩ := w1.allocF hp (.dK (mergeK [] ((ks.map DK.key).zip us)))
        refine hk _ _ q1 _ _ _ w' (x1.trans x') ?_ .v
        show Rep X.K T _ _ (.dct _ _) _
        simp only [Rep]
        exact ⟨p, _, rfl, .inr rfl, upd_same, m1, RepL.kp (x'.kp w1.g) _ _ m2⟩
      · exact q1.elim
    · exact q1.elim, hx⟩
end
end L3

namespace L3
open PySem PySem.Spec L2
open PyProof.Rows hiding St
set_option autoImplicit false

/-! ### attributes -/
def lookF : List Str → List D → Str → Option D
  | g :: gs, d :: ds, f => if g = f then some d else lookF gs ds f
  | _, _, _ => none
theorem lookF_rep {K : PySem.W.Frag} {T : Tab} {G : Gh} {H : Hp} {f : Str} : ∀ {gs : List Str} {ds : List D} {fs : List (Str × V)} {d : D}, fs.map (·.1) = gs.take ds.length → RepL K T G H ds (fs.map (·.2)) → lookF gs ds f = some d → ∃ v, fs.lookup f = some v ∧ Rep K T G H d v
  | [], ds, _, _, _, _, h => by simp [lookF] at h
  | g :: gs, [], _, _, _, _, h => by simp [lookF] at h
  | g :: gs, x :: ds, fs, d, e, r, h => by
    cases fs with
    | nil => simp at e
    | cons p fs =>
      obtain ⟨g', v⟩ := p
      simp only [List.map_cons, List.length_cons, List.take_succ_cons, List.cons.injEq] at e
      simp only [List.map_cons, RepL, List.cons.injEq] at r
      obtain ⟨y, ys, ⟨rfl, rfl⟩, r1, r2⟩ := r
      obtain ⟨rfl, e⟩ := e
      by_cases hg : g' = f
      · simp only [lookF, if_pos hg, Option.some.injEq] at h
        subst h
        exact ⟨v, by simp [List.lookup, hg], r1⟩
      · simp only [lookF, if_neg hg] at h
        obtain ⟨v', e1, e2⟩ := lookF_rep e r2 h
        refine ⟨v', ?_, e2⟩
        have hb : (f == g') = false := beq_eq_false_iff_ne.mpr fun z => hg z.symm
        simp only [List.lookup, hb]
        exact e1
theorem lookup_none {κ : Type} [BEq κ] [LawfulBEq κ] {α : Type} {fs : List (κ × α)} {f : κ} (h : f ∉ fs.map (·.1)) : fs.lookup f = none := by
  induction fs with
  | nil => rfl
  | cons p fs ih =>
    simp only [List.map_cons, List.mem_cons, not_or] at h
    have hb : (f == p.1) = false := beq_eq_false_iff_ne.mpr h.1
    obtain ⟨p1, p2⟩ := p
    simp only [List.lookup, hb]
    exact ih h.2
theorem putF_new {f : Str} {v : V} : ∀ {fs : List (Str × V)}, f ∉ fs.map (·.1) → putF f v fs = fs ++ [(f, v)]
  | [], _ => rfl
  | (g, x) :: fs, h => by
    simp only [List.map_cons, List.mem_cons, not_or] at h
    have : putF f v ((g, x) :: fs) = (if g = f then (g, v) :: fs else (g, x) :: putF f v fs) := rfl
    rw [this, if_neg fun z => h.1 z.symm, putF_new h.2]; rfl
/-- a class whose instances' attributes may be asked -/
structure ClsF (K : PySem.W.Frag) (T : Tab) (c : Nat) : Prop where
  cl : Cls K (T.ca c)
  na : ∀ f ∈ T.fn c, NoAttr K (T.ca c) f
  nd : (T.fn c).Nodup
  few : (T.fn c).length < 1000
theorem lookF_mem {f : Str} : ∀ {gs : List Str} {ds : List D} {d : D}, lookF gs ds f = some d → f ∈ gs
  | [], ds, _, h => by simp [lookF] at h
  | g :: gs, [], _, h => by simp [lookF] at h
  | g :: gs, x :: ds, d, h => by
    by_cases hg : g = f
    · exact List.mem_cons.mpr (.inl hg.symm)
    · simp only [lookF, if_neg hg] at h
      exact List.mem_cons_of_mem _ (lookF_mem h)

section
variable {m : Nat} {X : Cx} {T : Tab} {B : Bs} {W : WX} {a b c e o i : Expr} {es : List Expr} {pos pos2 p p' : Pos}
theorem qe_fld {f : Str} {te : TE} (he : QE m X e te) (hb : attributeBase e f X.env (eval e X.env) = eval e X.env) : QE m X (.Attribute e f pos) (tFld X.K te f) := by
  refine ⟨fun pins z σ H Y hz I q => ?_⟩
  refine attr_of hb (thn (he.run pins z σ H _ hz I q) fun u s1 ⟨x, H1, I1, rx, a, C, dx, fs, v, ex, ea, c, n, l, q⟩ => ?_)
  subst ex
  obtain rfl : u = Value.ref a := rx
  exact getattr_ok I1 ea c n l fun u' s2 I2 ru => ⟨v, H1, I2, ru, q⟩
/-- e.f of an instance laid down, its class among cs -/
def eFld (fn : Nat → List Str) (cs : List Nat) (f : Str) (g : Sem') : Sem' := fun δ μ k x => g δ μ (fun r μ1 => match r.d with
  | .obj c vs => c ∈ cs ∧ match lookF (fn c) vs f with
    | some d => k (.v d) μ1
    | none => False
  | .loc n => match μ1[n]? with
    | some (.ins c vs) => c ∈ cs ∧ match lookF (fn c) vs f with
      | some d => k (.v d) μ1
      | none => False
    | _ => False
  | _ => False) x
theorem take_all {α β : Type} {l : List α} {m : List β} {n : Nat} (h : l.length = n) : l.take n = l := by rw [← h, List.take_length]
theorem de_fld {f : Str} {cs : List Nat} {g : Sem'} (hc : ∀ c ∈ cs, ClsF X.K T c) (he : DV m X T B W e g) (hb : attributeBase e f X.env (eval e X.env) = eval e X.env := by rfl) : DE m X T B W (.Attribute e f pos) (eFld T.fn cs f g) :=
  QE.weak (qe_fld he hb) fun σ H Q ⟨G, δ, μ, k, xx, w, q, hk, hx⟩ => ⟨G, δ, μ, _, xx, w, q, fun r μ1 q1 v G1 H1 w1 x1 ok => by
    split at q1
    · rename_i c vs hd
      obtain ⟨hm, q1⟩ := q1
      split at q1
      · rename_i d hl
        rw [hd] at ok
        simp only [Rep] at ok
        obtain ⟨a, dx, fs, rfl, _, h1, h2, h3⟩ := ok
        have hlen : vs.length = (T.fn c).length := by rw [← h2, List.length_map, ← h3.length, List.length_map]
        obtain ⟨v, e1, e2⟩ := lookF_rep (by rw [hlen, List.take_length]; exact h2) h3 hl
        exact ⟨a, T.ca c, dx, fs, v, rfl, h1, (hc c hm).cl, (hc c hm).na f (lookF_mem hl), e1, hk _ _ q1 v G1 H1 w1 x1 e2 .v⟩
      · exact q1.elim
    · rename_i n hd
      split at q1
      · rename_i c vs hcell
        obtain ⟨hm, q1⟩ := q1
        split at q1
        · rename_i d hl
          rw [hd] at ok
          simp only [Rep] at ok
          obtain ⟨a, rfl, hn⟩ := ok
          obtain ⟨dx, fs, h1, h2, h3⟩ := w1.g.ce n a _ hn hcell
          obtain ⟨v, e1, e2⟩ := lookF_rep h2 h3 hl
          exact ⟨a, T.ca c, dx, fs, v, rfl, h1, (hc c hm).cl, (hc c hm).na f (lookF_mem hl), e1, hk _ _ q1 v G1 H1 w1 x1 e2 .v⟩
        · exact q1.elim
      · exact q1.elim
    · exact q1.elim, hx⟩
/-- self.f in __init__ -/
def eFldO (fn : Nat → List Str) (i c : Nat) (f : Str) : Sem' := fun δ μ k x => match δ[i]? with
  | some (some (.oi c' vs)) => c' = c ∧ match lookF (fn c) vs f with
    | some d => k (.v d) μ
    | none => False
  | _ => False
theorem de_fldO (i c : Nat) {f x : Str} {px : Pos} (hc : ClsF X.K T c) (h : PE X (.Name x px) (tVar i)) (hb : attributeBase (.Name x px) f X.env (eval (.Name x px) X.env) = eval (.Name x px) X.env := by rfl) : DE m X T B W (.Attribute (.Name x px) f pos) (eFldO T.fn i c f) :=
  QE.weak (qe_fld (qe_of h) hb) fun σ H Q ⟨G, δ, μ, k, xx, w, q, hk, hx⟩ => by
    unfold eFldO at q
    split at q
    · rename_i c' vs hd
      obtain ⟨rfl, q⟩ := q
      split at q
      · rename_i d hl
        obtain ⟨v, e1, a, dx, fs, rfl, h1, nf, ni, h2, h3⟩ := w.sl i _ hd
        obtain ⟨v, e2, r2⟩ := lookF_rep h2 h3 hl
        exact ⟨_, e1, a, T.ca c', dx, fs, v, rfl, h1, hc.cl, hc.na f (lookF_mem hl), e2, hk _ _ q v G H w w.same r2 .v⟩
      · exact q.elim
    · exact q.elim
/-- self.f = e in __init__: the next attribute -/
theorem qs_fld {f : Str} {pos' : Pos} {ta tv : TE} (ha : QE m X o ta) (hv : QE m X e tv) (hs : swapsWith e (some (.Attribute o f pos')) pos.line X.env = pure false) : QS m X (.Assign [.Attribute o f pos'] e pos) (sFld X.K ta tv f) := by
  refine ⟨fun pins z σ H D hz I q => ?_⟩
  refine plainObj_wpAny_Assign_Attribute (thm hz (hv.run pins z σ H _ hz I q) fun u s1 h1 ⟨y, H1, I1, ry, q⟩ => thn (ha.run pins s1 σ H1 _ h1 I1 q) fun ov s2 ⟨x, H2, I2, rx, a, C, dx, fs, ex, ea, c, n, l, q2⟩ => ?_) hs
  subst ex
  obtain rfl : ov = Value.ref a := rx
  exact setattr_ok I2 ea c n l ry fun s3 I3 => ⟨σ, _, I3, q2⟩
def sFldO (fn : Nat → List Str) (i c : Nat) (f : Str) (g : Sem') : SSem := fun δ μ D => match δ[i]? with
  | some (some (.oi c' vs)) => c' = c ∧ g δ μ (fun r μ1 => (fn c)[vs.length]? = some f ∧ D.nx (δ.set i (some (.oi c (vs ++ [r.d])))) μ1) fun e μ1 => D.ex e δ μ1
  | _ => False
/-- an instance of one's own is written -/
theorem Wf.wrI {K : PySem.W.Frag} {G : Gh} {μ : Mu} {H : Hp} {σ : St} {δ : Env'} (w : Wf K T B G μ H σ δ) {i c : Nat} {ds es : List D} {q : Addr} {dx : Addr} {fs : List (Str × V)} (hd : δ[i]? = some (some (.oi c ds))) (hs : σ[i]? = some (some (.ref q)))
    (hf : fs.map (·.1) = (T.fn c).take es.length) (r : RepL K T G H es (fs.map (·.2))) :
    Wf K T B G μ (upd H q (.ins (T.ca c) dx fs)) σ (δ.set i (some (.oi c es))) ∧ Kp G H G (upd H q (.ins (T.ca c) dx fs)) := by
  obtain ⟨v, e1, p', dx0, fs0, ev, hp, nf, ni, _, r'⟩ := w.sl i _ hd
  rw [hs] at e1; cases e1
  cases ev
  have n := w.fr i _ _ hd hs
  have nfp : ∀ a, G.F a → a ≠ q := fun a f z => nf (by rw [← z]; exact f)
  have k : Kp G H G (upd H q (.ins (T.ca c) dx fs)) := ⟨fun a f => f, ⟨[], by simp⟩, fun a o f h => by rw [upd_ne (nfp a f)]; exact h⟩
  have hil : i < δ.length := (List.getElem?_eq_some_iff.mp hd).1
  have look : ∀ {j : Nat} {r' : Rv}, (δ.set i (some (.oi c es)))[j]? = some (some r') → (j = i ∧ r' = .oi c es) ∨ (j ≠ i ∧ δ[j]? = some (some r')) := fun {j r'} e => by
    by_cases h : j = i
    · subst h
      rw [List.getElem?_set_self hil] at e
      exact .inl ⟨rfl, by cases e; rfl⟩
    · rw [List.getElem?_set_ne (Ne.symm h)] at e
      exact .inr ⟨h, e⟩
  have hne : ∀ a, a ∈ G.io → a ≠ q := fun a h z => ni (by rw [← z]; exact h)
  refine ⟨⟨⟨fun a f => ?_, w.g.ln, w.g.nd, w.g.nf, fun m a c e1 e2 => (w.g.ce m a c e1 e2).kp k fun o h => ?_⟩, ⟨w.x.fr, w.x.io, fun a o e h => ?_, w.x.new, w.x.newF, fun a h => ?_⟩, by simpa using w.ln, fun j r' e => ?_, fun j r' u e eu => ?_, fun j j' r1 r2 q' e1 e2 o1 o2 s1 s2 => ?_, fun j c' vs e => ?_⟩, k⟩
  · obtain ⟨o, e⟩ := w.g.fz a f
    exact ⟨o, by rw [upd_ne (nfp a f)]; exact e⟩
  · rw [upd_ne (hne a (List.mem_of_getElem? e1))]; exact h
  · rw [upd_ne (fun z => by rw [z, n rfl q rfl] at e; cases e)]; exact w.x.keep a o e h
  · obtain ⟨o, e⟩ := w.x.there a h
    exact ⟨o, by rw [upd_ne (hne a (w.x.mem h))]; exact e⟩
  · rcases look e with ⟨rfl, rfl⟩ | ⟨hj, e⟩
    · exact ⟨_, hs, q, dx, fs, rfl, upd_same, nf, ni, hf, RepL.kp k es _ r⟩
    · obtain ⟨u, eu, h⟩ := w.sl j r' e
      refine ⟨u, eu, ?_⟩
      have key : ∀ a, r'.own = true → u = .ref a → a ≠ q := fun a ho eq z => by
        subst z; subst eq
        exact hj (w.ds j i _ _ _ e hd ho rfl eu hs)
      cases r' with
      | v d => exact Rep.kp k d u h
      | ol es' =>
        obtain ⟨q, ws, e2, hq, nf', ni', r'⟩ := h
        exact ⟨q, ws, e2, by rw [upd_ne (key q rfl e2)]; exact hq, nf', ni', RepL.kp k es' ws r'⟩
      | oi c es' =>
        obtain ⟨q, dx, fs, e2, hq, nf', ni', e3, r'⟩ := h
        exact ⟨q, dx, fs, e2, by rw [upd_ne (key q rfl e2)]; exact hq, nf', ni', e3, RepL.kp k es' _ r'⟩
  · rcases look e with ⟨rfl, rfl⟩ | ⟨hj, e⟩
    · rw [hs] at eu; cases eu
      exact fun _ q z => by cases z; exact n rfl _ rfl
    · exact w.fr j r' u e eu
  · rcases look e1 with ⟨rfl, rfl⟩ | ⟨hj, f1⟩
    · rcases look e2 with ⟨rfl, rfl⟩ | ⟨hj', f2⟩
      · rfl
      · exact w.ds _ _ _ _ _ hd f2 rfl o2 s1 s2
    · rcases look e2 with ⟨rfl, rfl⟩ | ⟨hj', f2⟩
      · exact w.ds _ _ _ _ _ f1 hd o1 rfl s1 s2
      · exact w.ds j j' r1 r2 q' f1 f2 o1 o2 s1 s2
  · rcases look e with ⟨rfl, h⟩ | ⟨_, e⟩
    · exact w.sf _ _ _ hd
    · exact w.sf j c' _ e
theorem take_snoc {α : Type} {l : List α} {n : Nat} {x : α} (h : l[n]? = some x) : l.take (n + 1) = l.take n ++ [x] := by
  rw [List.take_succ, h]; rfl
theorem nodup_take {α : Type} {l : List α} {n : Nat} {x : α} (nd : l.Nodup) (h : l[n]? = some x) : x ∉ l.take n := by
  intro hm
  obtain ⟨j, hj, e⟩ := List.getElem_of_mem hm
  rw [List.length_take] at hj
  obtain ⟨hn, hx⟩ := List.getElem?_eq_some_iff.mp h
  rw [List.getElem_take] at e
  have : j = n := (List.getElem?_inj (by omega : j < l.length) nd).mp (by rw [List.getElem?_eq_getElem (by omega : j < l.length), h, e])
  omega
theorem ds_fldO (i c : Nat) {f x : Str} {px pos' : Pos} {g : Sem'} (hc : ClsF X.K T c) (h : PE X (.Name x px) (tVar i)) (he : DV m X T B W e g) (hs : swapsWith e (some (.Attribute (.Name x px) f pos')) pos.line X.env = pure false := by rfl) :
    DS m X T B W (.Assign [.Attribute (.Name x px) f pos'] e pos) (sFldO T.fn i c f g) :=
  QS.weak (qs_fld (qe_of h) he hs) fun Q σ H ⟨G, δ, μ, D, w, q, en⟩ => by
    unfold sFldO at q
    split at q
    · rename_i c' vs hd
      obtain ⟨rfl, q⟩ := q
      obtain ⟨v, e1, a, dx, fs, rfl, h1, nf, ni, h2, h3⟩ := w.sl i _ hd
      refine ⟨G, δ, μ, _, _, w, q, fun r μ1 q1 v1 G1 H1 w1 x1 r1 => ?_, xs_of en⟩
      obtain ⟨hl, q1⟩ := q1
      obtain ⟨v', e1', a', dx', fs', ea', h1', nf', ni', h2', h3'⟩ := w1.sl i _ hd
      rw [e1] at e1'; cases e1'
      cases ea'
      have hn : f ∉ fs'.map (·.1) := by rw [h2']; exact nodup_take hc.nd hl
      have hlen : fs'.length < 1000 := by
        have h4 := h3'.length
        rw [List.length_map] at h4
        have := (List.getElem?_eq_some_iff.mp hl).1
        have := hc.few
        omega
      refine ⟨_, e1, a, T.ca c', dx', fs', rfl, h1', hc.cl, hc.na f (List.mem_of_getElem? hl), hlen, ?_⟩
      rw [putF_new hn]
      obtain ⟨w2, k2⟩ := w1.wrI (es := vs ++ [r.d]) (dx := dx') (fs := fs' ++ [(f, v1)]) hd e1 (by rw [List.map_append, h2', List.length_append]; exact (take_snoc hl).symm) (by rw [List.map_append]; exact h3'.append (.one r1))
      exact en.nx _ _ q1 _ _ _ w2 ((x1.kp w.g).trans k2)
    · exact q.elim
end
end L3

namespace L3
open PySem PySem.Spec L2
open PyProof.Rows hiding St
set_option autoImplicit false
/-! ### __init__ -/
/-- what __init__ makes: the arguments, then the attributes' values -/
abbrev ISem := List D → Mu → (List D → Mu → Prop) → KX → Prop
def spI (K : PySem.W.Frag) (T : Tab) (c n : Nat) (f : ISem) : Sp := fun vs H Q E => ∃ G μ H0 a dx ds us k x, vs = .ref a :: us ∧ H = upd (upd H0 dx (.own a)) a (.ins (T.ca c) dx []) ∧ H0 a = none ∧ H0 dx = none ∧ dx ≠ a ∧ ds.length + 1 = n ∧ WfG K T G μ H0 ∧ RepL K T G H0 ds us ∧ f ds μ k x ∧
  (∀ fs μ', k fs μ' → ∀ G' H', WfG K T G' μ' H' → Ext G H0 G' H' → Rep K T G' H' (.obj c fs) (.ref a) → Q .non H') ∧
  (∀ e μ', x e μ' → ∀ G' H' cls od, WfG K T G' μ' H' → Ext G H0 G' H' → ExcOk K T G' H' e cls od → E cls od H')
def inS (fn : Nat → List Str) (c n m : Nat) (body : SSem) : ISem := fun ds μ k x => ds.length + 1 = n ∧ body (some (.oi c []) :: ds.map (fun d => some (.v d)) ++ List.replicate (m - n) none) μ
  { nx := fun δ' μ' => ∃ fs, δ'[0]? = some (some (.oi c fs)) ∧ fs.length = (fn c).length ∧ k fs μ', rt := fun _ _ => False, ex := fun e _ μ' => x e μ' }
theorem obj_core {K : PySem.W.Frag} {T : Tab} {B : Bs} {G : Gh} {μ : Mu} {H : Hp} {σ : St} {δ : Env'} {i c : Nat} {fs : List D} {a : Addr} (w : Wf K T B G μ H σ δ) (hd : δ[i]? = some (some (.oi c fs))) (hl : fs.length = (T.fn c).length) (hs : σ[i]? = some (some (.ref a))) :
    ∃ G', WfG K T G' μ H ∧ Ext B.G B.H G' H ∧ Rep K T G' H (.obj c fs) (.ref a) := by
  obtain ⟨v, e1, p, dx, kv, ev, hp, nf, ni, h2, h3⟩ := w.sl i _ hd
  rw [hs] at e1; cases e1
  cases ev
  have n := w.fr i _ _ hd hs
  have k : Kp G H ⟨fun b => G.F b ∨ b = a, G.io⟩ H := ⟨fun a f => .inl f, ⟨[], by simp⟩, fun _ _ _ h => h⟩
  refine ⟨⟨fun b => G.F b ∨ b = a, G.io⟩, ⟨?_, w.g.ln, w.g.nd, ?_, fun n a c e1 e2 => (w.g.ce n a c e1 e2).kp k fun _ h => h⟩, ⟨fun a f => .inl (w.x.fr a f), w.x.io, w.x.keep, w.x.new, ?_, w.x.there⟩, ?_⟩
  · rintro b (f | rfl)
    · exact w.g.fz b f
    · exact ⟨_, hp⟩
  · rintro b hi (f | rfl)
    · exact w.g.nf b hi f
    · exact ni hi
  · rintro b (f | rfl)
    · exact w.x.newF b f
    · exact .inr (n rfl _ rfl)
  · simp only [Rep]
    exact ⟨a, dx, kv, rfl, .inr rfl, hp, by rw [h2, hl, List.take_length], RepL.kp k fs _ h3⟩
section
variable {P : Program} {w : World} {K : PySem.W.Frag} {mg : Str → Option Value} {base : Heap} {T : Tab}
theorem init_wf {B : Bs} {μ : Mu} {N : List Str} {ds : List D} {us : List V} {n c : Nat} {a dx : Addr} (g : WfG K T B.G μ B.H) (hsf : B.s = a) (ha : B.H a = none) (hdx : B.H dx = none) (hne : dx ≠ a) (r : RepL K T B.G B.H ds us) (hn : ds.length + 1 = n) (hl : n ≤ N.length) :
    Wf K T B B.G μ (upd (upd B.H dx (.own a)) a (.ins (T.ca c) dx [])) (L2.start N (.ref a :: us)) (some (.oi c []) :: ds.map (fun d => some (.v d)) ++ List.replicate (N.length - n) none) := by
  have h1 : (upd B.H dx (.own a)) a = none := by rw [upd_ne hne.symm]; exact ha
  have w0 : Wf K T B B.G μ B.H [] [] := ⟨g, .refl g, rfl, fun i r e => by simp at e, fun i r v e _ => by simp at e, fun i j r r' p e _ _ _ _ _ => by simp at e, fun i c vs e => by simp at e⟩
  obtain ⟨w1, x1, _, _⟩ := w0.allocO hdx (.own a)
  obtain ⟨w2, x2, pf, pi⟩ := w1.allocO h1 (.ins (T.ca c) dx [])
  have x := x1.trans x2
  have el := r.length
  have look : ∀ {i : Nat} {q : Rv}, (some (.oi c []) :: ds.map (fun d => some (Rv.v d)) ++ List.replicate (N.length - n) none)[i]? = some (some q) → (i = 0 ∧ q = .oi c []) ∨ ∃ d j, i = j + 1 ∧ q = .v d ∧ ds[j]? = some d := fun {i q} e => by
    cases i with
    | zero => simp at e; exact .inl ⟨rfl, e.symm⟩
    | succ j =>
      simp only [List.cons_append, List.getElem?_cons_succ] at e
      by_cases h : j < ds.length
      · rw [List.getElem?_append_left (by simpa using h), List.getElem?_map] at e
        cases hd : ds[j]? with
        | none => rw [hd] at e; cases e
        | some d => rw [hd] at e; cases e; exact .inr ⟨d, j, rfl, rfl, hd⟩
      · rw [List.getElem?_append_right (by simpa using h), List.getElem?_replicate] at e
        split at e <;> cases e
  have st : ∀ j, j ≤ us.length → (L2.start N (.ref a :: us))[j]? = ((V.ref a :: us)[j]?).map some := fun j hj => by
    unfold L2.start
    rw [List.getElem?_append_left (by simp; omega), List.getElem?_map]
  have own0 : ∀ {i : Nat} {q : Rv}, (some (.oi c []) :: ds.map (fun d => some (Rv.v d)) ++ List.replicate (N.length - n) none)[i]? = some (some q) → q.own = true → i = 0 := fun e o => by
    rcases look e with ⟨h, _⟩ | ⟨d, j, _, rfl, _⟩
    · exact h
    · cases o
  refine ⟨w2.g, x, ?_, fun i q e => ?_, fun i q v e ev => ?_, fun i j q q' p e e' o o' _ _ => by rw [own0 e o, own0 e' o'], fun i c' vs e => ?_⟩
  · unfold L2.start
    simp only [List.length_append, List.length_cons, List.length_map, List.length_replicate]
    omega
  · rcases look e with ⟨rfl, rfl⟩ | ⟨d, j, rfl, rfl, hd⟩
    · exact ⟨.ref a, by rw [st 0 (Nat.zero_le _)]; rfl, a, dx, [], rfl, upd_same, pf, pi, by simp, .nil⟩
    · obtain ⟨v, e1, r1⟩ := r.get hd
      have hj := (List.getElem?_eq_some_iff.mp e1).1
      exact ⟨v, by rw [st (j + 1) hj, List.getElem?_cons_succ, e1]; rfl, Rep.kp (x.kp g) _ _ r1⟩
  · rcases look e with ⟨rfl, rfl⟩ | ⟨d, j, rfl, rfl, hd⟩
    · rw [st 0 (Nat.zero_le _)] at ev
      cases ev
      exact fun _ p ep => by cases ep; exact ha
    · exact .v
  · rcases look e with ⟨rfl, h⟩ | ⟨d, j, _, h, _⟩
    · rw [st 0 (Nat.zero_le _), hsf]; rfl
    · cases h
/-- THE RULE for an __init__ by data -/
theorem init_ok {m c : Nat} {x qual : Str} {st : Stmt} {f : Addr} {fd : FuncData} {N ps : List Str} {k : Nat} {body : SSem} (F : Fun K x qual st f fd) (S : FnScope N ps (defScope st))
    (hbody : ∀ (cdv : Value) (A : Around) (outer : List PySem.Env) (s : Shared) (H : Hp) (E : XK) (B : Bs), RoomG k (cxOf (L2.CX P w) P w K mg base N qual (defScope st) f cdv A outer s H E).A → Takes (cxOf (L2.CX P w) P w K mg base N qual (defScope st) f cdv A outer s H E) (fun cls d _ H => E cls d H) →
      PassesOwn (model P w) (cxOf (L2.CX P w) P w K mg base N qual (defScope st) f cdv A outer s H E).A (cxOf (L2.CX P w) P w K mg base N qual (defScope st) f cdv A outer s H E).env (cxOf (L2.CX P w) P w K mg base N qual (defScope st) f cdv A outer s H E).xe →
      DSs m (cxOf (L2.CX P w) P w K mg base N qual (defScope st) f cdv A outer s H E) T B (fun cls d _ H => E cls d H) (defBody st) body) : FnM m P w K mg base (L2.CX P w) (k + 1) f fd ps (spI K T c ps.length (inS T.fn c ps.length N.length body)) := by
  refine fn_m F S (fun vs H Q E h => ?_) (fun cdv A outer s H vs Q E hr h => ?_)
  · obtain ⟨G, μ, H0, a, dx, ds, us, k, x, rfl, rfl, _, _, _, hn, w, r, _⟩ := h
    rw [List.length_cons, r.length]; exact hn
  · obtain ⟨G, μ, H0, a, dx, ds, us, k, x, rfl, rfl, ha, hdx, hne, hn, w, r, q, hk, hx⟩ := h
    have hpl : ps.length ≤ N.length := by have := congrArg List.length S.pre; rw [List.length_take] at this; omega
    refine ⟨_, hbody cdv A outer s _ E ⟨G, H0, a⟩ hr (takes_of rfl rfl rfl rfl) (passes_of rfl), G, _, μ, _, init_wf (B := ⟨G, H0, a⟩) w rfl ha hdx hne r hn hpl, q.2, ⟨?_, ?_, ?_, ?_, ?_⟩⟩
    · rintro δ' μ' ⟨fs, h1, h2, h3⟩ G' H' σ' w' _
      obtain ⟨G2, g2, x2, r2⟩ := obj_core w' h1 h2 (w'.sf 0 c fs h1)
      exact hk _ _ h3 G2 H' g2 x2 r2
    · exact fun δ' μ' h => h.elim
    · exact fun δ' μ' h => h.elim
    · exact fun r μ' h => h.elim
    · exact fun e δ μ h G' H' σ' cls od w' ok => hx _ _ h G' H' cls od w'.g w'.x ok
end

/-! ### calls of a class, of a method, a property -/
section
variable {m : Nat} {X : Cx} {T : Tab} {B : Bs} {W : WX} {a b c e o i : Expr} {es : List Expr} {pos pos2 p p' apos : Pos} {k n j : Nat} {C f : Addr} {fd : FuncData} {ps : List Str} {sp : Sp} {E : St → XK} {x : Str} {t : TA}
theorem run_makeM {pins : List (Addr × Obj)} {σ : St} {H : Hp} {z : Shared} {Y : VK} {us all : List Value} {kw : List (Str × Value)} {vs : List V} (M : Mk X.K C f) (F : FnM m X.prog X.w X.K X.mg X.base (L2.CX X.prog X.w) k f fd ps sp) (hz : m ≤ z.toks) (hr : RoomG (k + 1) X.A)
    (hb : ∀ (s : Shared) (x : Value), X.K.In s.heap → all.length + 1 = ps.length → BindsTo s fd ⟨x :: us, kw⟩ (ps.zip (x :: all))) (hx : PassesAt (L2.CX X.prog X.w) X σ (E σ)) (I : Inv X pins σ H z) (r : Vals vs all)
    (h : ∀ x dx, H x = none → H dx = none → dx ≠ x → sp (.ref x :: vs) (upd (upd H dx (.own x)) x (.ins C dx [])) (fun v H2 => v = .non ∧ Y (.ref x) H2) (E σ)) :
    wpAny (model X.prog X.w) X.A (call (.ref C) us kw) (EP X pins σ Y) X.xe z := by
  have hq := h (z.heap.objs.size + 1) z.heap.objs.size (I.hok.fresh (Nat.le_succ _)) (I.hok.fresh (Nat.le_refl _)) (Nat.ne_of_lt (Nat.lt_succ_self _))
  have I2 := Inv.made (C := C) I
  have r2 : Vals (V.ref (z.heap.objs.size + 1) :: vs) (Value.ref (z.heap.objs.size + 1) :: all) := .cons rfl r
  have hl : all.length + 1 = ps.length := by
    have e := r2.length
    rw [F.len _ _ _ _ hq] at e
    exact e.symm
  refine wpAny_call (make_map (f := f) I.kIn M.makes M.init (beq_iff_eq.mp M.fn) (codeAny_mono (F.run _ X.stack _ _ ⟨Value.ref (z.heap.objs.size + 1) :: us, kw⟩ (Value.ref (z.heap.objs.size + 1) :: all) _ _ (E σ) hz (hr.make C us kw)
    (I2.env0.make C us kw) (hb _ _ I2.kIn hl) r2 hq) fun r s' hq' => ?_))
  cases r with
  | error e => exact hx pins _ _ e s' I2 hq'
  | ok fl =>
    cases fl with
    | ret u =>
      obtain ⟨v, H', I3, rv, ev, q3⟩ := I2.after hq'
      subst ev
      exact ⟨rv, ⟨V.ref (z.heap.objs.size + 1), H', I3, rfl, q3⟩⟩
    | next => exact hq'.elim
    | brk => exact hq'.elim
    | cont => exact hq'.elim
def tMakeS (C : Addr) (sp : Sp) (E : St → XK) (t : TA) : TE := fun σ H Q => t σ H fun vs H1 => ∀ x dx, H1 x = none → H1 dx = none → dx ≠ x → sp (.ref x :: vs) (upd (upd H1 dx (.own x)) x (.ins C dx [])) (fun v H2 => v = .non ∧ Q (.ref x) H2) (E σ)
theorem qe_make (M : Mk X.K C f) (F : FnM m X.prog X.w X.K X.mg X.base (L2.CX X.prog X.w) k f fd ps sp) (hr : RoomG (k + 1) X.A) (hg : Gl X x) (hm : X.mg x = some (.ref C)) (hb : Binds X.K fd ps []) (hx : ∀ σ, PassesAt (L2.CX X.prog X.w) X σ (E σ)) (ha : QA m X (e :: es) t)
    (hdb : (x == ("__debug__" : Str)) = false := by decide) (he : starEach (e :: es) X.env = (false, eval e X.env) :: starEach es X.env := by rfl) (hpl : (backTo pos (starEach es X.env)).any (·.1) = false := by rfl) :
    QE m X (.Call (.Name x p) (e :: es) [] pos) (tMakeS C sp E t) :=
  ⟨fun pins z σ H Y hz I q => wpAny_Call_Name_kw (ld_glob I hg hm (PySem.W.callWith_K (h₀ := X.base) I.ok.mod.kin M.kp (thm hz (ha.run pos pins z σ H _ hz I q) fun us z1 h1 ⟨vs, H1, I1, r, q1⟩ => ⟨I1.kIn, run_makeM M F h1 hr (fun s x hs hl => by
    have b := hb s (x :: us) hs (by rw [List.append_nil]; exact hl)
    rw [List.append_nil] at b
    exact b) (hx σ) I1 r q1⟩) he hpl) hdb)⟩
/-- keywords' values -/
structure QK (m : Nat) (X : Cx) (kws : List Keyword) (t : TA) : Prop where
  run : ∀ (pos : Pos) (pins : List (Addr × Obj)) (z : Shared) (σ : St) (H : Hp) (Y : List V → Hp → Prop), m ≤ z.toks → Inv X pins σ H z → t σ H Y → wpAny (model X.prog X.w) X.A (evalAll ((backToKw pos (keywordEach kws X.env)).map (·.2))) (AP X pins σ Y) X.xe z
theorem qk_nil : QK m X [] tNil := ⟨fun pos pins z σ H Y _ I h => pk_nil.run pos pins z σ H Y I h⟩
theorem qk_cons {te : TE} {tr : TA} {nm : Option Str} {kpos : Pos} {kws : List Keyword} (ha : QE m X e te) (hr : QK m X kws tr) : QK m X (⟨nm, e, kpos⟩ :: kws) (tCons te tr) := by
  refine ⟨fun pos pins z σ H Y hz I h => ?_⟩
  show wpAny _ _ (evalAll ((do let v ← eval e X.env; standAt pos; pure v) :: (backToKw pos (keywordEach kws X.env)).map (·.2))) _ _ z
  refine wpAny_evalAll_cons (wpAny_bind (thm hz (ha.run pins z σ H _ hz I h) fun u s1 h1 ⟨x, H1, I1, r1, q1⟩ => wpAny_bind (wpAny_standAt (wpAny_pure ?_))))
  exact thn (hr.run pos pins s1 σ H1 _ h1 I1 q1) fun us s2 ⟨xs, H2, I2, r2, q2⟩ => ⟨x :: xs, H2, I2, .cons r1 r2, q2⟩
/-- C(k = v, ..), in the parameters' order -/
theorem qe_makeK {kws : List Keyword} {ks : List Str} (M : Mk X.K C f) (F : FnM m X.prog X.w X.K X.mg X.base (L2.CX X.prog X.w) k f fd ps sp) (hr : RoomG (k + 1) X.A) (hg : Gl X x) (hm : X.mg x = some (.ref C))
    (hb : ∀ (s : Shared) (x : Value) (ws : List Value), X.K.In s.heap → ws.length + 1 = ps.length → BindsTo s fd ⟨[x], ks.zip ws⟩ (ps.zip (x :: ws))) (hx : ∀ σ, PassesAt (L2.CX X.prog X.w) X σ (E σ)) (hkw : QK m X kws t)
    (hall : (backToKw pos (keywordEach kws X.env)).all (·.1.isSome) = true := by rfl) (hks : (backToKw pos (keywordEach kws X.env)).filterMap (·.1) = ks := by rfl) (hdb : (x == ("__debug__" : Str)) = false := by decide)
    (hpl : ((backTo pos (starEach [] X.env)).any (·.1) || (backToKw pos (keywordEach kws X.env)).any (·.1.isNone)) = false := by rfl) :
    QE m X (.Call (.Name x p) [] kws pos) (tMakeS C sp E t) := by
  refine ⟨fun pins z σ H Y hz I q => ?_⟩
  refine wpAny_Call_Name_kw (ld_glob I hg hm ?_ hdb)
  refine PySem.W.callWith_KW0 (h₀ := X.base) I.ok.mod.kin M.kp hall ?_ hpl
  refine thm hz (hkw.run pos pins z σ H _ hz I q) fun ws s2 h2 ⟨zs, H2, I2, rz, q2⟩ => ⟨I2.kIn, ?_⟩
  rw [hks]
  exact run_makeM M F h2 hr (fun s x hs hl => hb s x ws hs hl) (hx σ) I2 rz q2
def eMake (c : Nat) (f : ISem) (t : SemA) : Sem' := fun δ μ k x => t δ μ (fun ds μ1 => f ds μ1 (fun fs μ2 => k (.v (.obj c fs)) μ2) x) x
theorem make_core {c : Nat} {g : ISem} {t : SemA} {n : Nat} {σ : St} {H : Hp} {Q : VK} (hf : ∀ ds μ k x, g ds μ k x → ds.length + 1 = n) (q : tE X.K T B W (eMake c g t) σ H Q) : tMakeS (T.ca c) (spI X.K T c n g) (WE W) (tA X.K T B W t) σ H Q := by
  obtain ⟨G, δ, μ, k, xx, w, q, hk, hx⟩ := q
  exact ⟨G, δ, μ, _, xx, w, q, fun ds μ1 q1 vs G1 H1 w1 x1 r1 a dx ha hdx hne => ⟨G1, μ1, H1, a, dx, ds, vs, _, xx, rfl, rfl, ha, hdx, hne, hf _ _ _ _ q1, w1.g, r1, q1,
    fun fs μ2 q2 G2 H2 w2 x2 ok => ⟨rfl, hk _ _ q2 _ G2 H2 (w1.ext x2 w2) (x1.trans x2) ok .v⟩,
    fun e μ2 q2 G2 H2 cls od w2 x2 ok => hx _ _ q2 G2 H2 cls od (w1.ext x2 w2) ok⟩, hx⟩
abbrev InM (m : Nat) (X : Cx) (T : Tab) (c k : Nat) (f : Addr) (fd : FuncData) (ps : List Str) (g : ISem) : Prop := FnM m X.prog X.w X.K X.mg X.base (L2.CX X.prog X.w) k f fd ps (spI X.K T c ps.length g)
theorem inS_len {fn : Nat → List Str} {c n m : Nat} {body : SSem} : ∀ ds μ k x, inS fn c n m body ds μ k x → ds.length + 1 = n := fun _ _ _ _ h => h.1
theorem de_make (c : Nat) {g : ISem} {t : SemA} (M : Mk X.K (T.ca c) f) (F : InM n X T c j f fd ps g) (hr : RoomG (k + 1) X.A) (hg : Gl X x) (hm : X.mg x = some (.ref (T.ca c))) (hb : Binds X.K fd ps []) (tk : Takes X W) (hf : ∀ ds μ k x, g ds μ k x → ds.length + 1 = ps.length) (ha : DA m X T B W (e :: es) t)
    (hn : n ≤ m := by omega) (hj : j ≤ k := by omega) (hdb : (x == ("__debug__" : Str)) = false := by decide) (he : starEach (e :: es) X.env = (false, eval e X.env) :: starEach es X.env := by rfl) (hpl : (backTo pos (starEach es X.env)).any (·.1) = false := by rfl) :
    DE m X T B W (.Call (.Name x p) (e :: es) [] pos) (eMake c g t) :=
  QE.weak (qe_make M (F.up hn) (hr.mono (by omega)) hg hm hb (fun σ => passAt tk σ) ha hdb he hpl) fun σ H Q q => make_core hf q
abbrev DKw (m : Nat) (X : Cx) (T : Tab) (B : Bs) (W : WX) (kws : List Keyword) (g : SemA) : Prop := QK m X kws (tA X.K T B W g)
theorem QK.weak {kws : List Keyword} {t t' : TA} (h : QK m X kws t) (hw : ∀ σ H Y, t' σ H Y → t σ H Y) : QK m X kws t' := ⟨fun pos pins z σ H Y hz I q => h.run pos pins z σ H Y hz I (hw σ H Y q)⟩
theorem dk_nil : DKw m X T B W [] aNil := QK.weak qk_nil fun σ H Q ⟨G, δ, μ, k, xx, w, q, hk, hx⟩ => hk _ _ q [] G H w w.same .nil
theorem dk_cons {g : Sem'} {t : SemA} {nm : Option Str} {kpos : Pos} {kws : List Keyword} (h : DV m X T B W e g) (ht : DKw m X T B W kws t) : DKw m X T B W (⟨nm, e, kpos⟩ :: kws) (aCons g t) :=
  QK.weak (qk_cons h ht) fun σ H Q ⟨G, δ, μ, k, xx, w, q, hk, hx⟩ =>
    ⟨G, δ, μ, _, xx, w, q, fun r μ1 q1 v1 G1 H1 w1 x1 r1 => ⟨G1, δ, μ1, _, xx, w1, q1, fun ds μ2 q2 vs G2 H2 w2 x2 r2 =>
      hk _ _ q2 _ G2 H2 w2 (x1.trans x2) (.cons (Rep.kp (x2.kp w1.g) _ _ r1) r2), hx⟩, hx⟩
theorem de_makeK (c : Nat) {g : ISem} {t : SemA} {kws : List Keyword} {ks : List Str} (M : Mk X.K (T.ca c) f) (F : InM n X T c j f fd ps g) (hr : RoomG (k + 1) X.A) (hg : Gl X x) (hm : X.mg x = some (.ref (T.ca c)))
    (hb : ∀ (s : Shared) (x : Value) (ws : List Value), X.K.In s.heap → ws.length + 1 = ps.length → BindsTo s fd ⟨[x], ks.zip ws⟩ (ps.zip (x :: ws))) (tk : Takes X W) (hf : ∀ ds μ k x, g ds μ k x → ds.length + 1 = ps.length) (ha : DKw m X T B W kws t)
    (hn : n ≤ m := by omega) (hj : j ≤ k := by omega) (hall : (backToKw pos (keywordEach kws X.env)).all (·.1.isSome) = true := by rfl) (hks : (backToKw pos (keywordEach kws X.env)).filterMap (·.1) = ks := by rfl) (hdb : (x == ("__debug__" : Str)) = false := by decide)
    (hpl : ((backTo pos (starEach [] X.env)).any (·.1) || (backToKw pos (keywordEach kws X.env)).any (·.1.isNone)) = false := by rfl) :
    DE m X T B W (.Call (.Name x p) [] kws pos) (eMake c g t) :=
  QE.weak (qe_makeK M (F.up hn) (hr.mono (by omega)) hg hm hb (fun σ => passAt tk σ) ha hall hks hdb hpl) fun σ H Q q => make_core hf q
end
end L3

namespace L3
open PySem PySem.Spec L2
open PyProof.Rows hiding St
set_option autoImplicit false
section
variable {m : Nat} {X : Cx} {T : Tab} {B : Bs} {W : WX} {a b c e o i : Expr} {es : List Expr} {pos pos2 p p' apos : Pos} {k n j : Nat} {C f : Addr} {fd : FuncData} {ps : List Str} {sp : Sp} {E : St → XK} {x : Str} {t : TA}

/-! ### methods -/
def tMethS (C : Addr) (w : Str) (sp : Sp) (E : St → XK) (to : TE) (t : TA) : TE := fun σ H Q => to σ H fun x H1 => ∃ a dx fs, x = .ref a ∧ H1 a = some (.ins C dx fs) ∧ fs.lookup w = none ∧ t σ H1 fun vs H2 => sp (x :: vs) H2 Q (E σ)
theorem qe_meth {pl : Sem Bool} {w : Str} {to : TE} (he : QE m X o to) (c : Cls X.K C) (hm : Meth X.K C w f) (F : FnM m X.prog X.w X.K X.mg X.base (L2.CX X.prog X.w) k f fd ps sp) (hr : RoomG k X.A) (hb : Binds X.K fd ps []) (hx : ∀ σ, PassesAt (L2.CX X.prog X.w) X σ (E σ)) (ha : QA m X (e :: es) t)
    (hst : starEach (e :: es) X.env = (false, eval e X.env) :: starEach es X.env := by rfl) (hpl : (backTo pos (starEach es X.env)).any (·.1) = false := by rfl)
    (ht : eval (.Call (.Attribute o w apos) (e :: es) [] pos) X.env = (do
      let ov ← eval o X.env
      standAt apos.atName
      let (f, first) ← holding [ov] (getMethod ov w pl)
      callWith pos f first (backTo pos (starEach (e :: es) X.env)) (backToKw pos (keywordEach [] X.env))) := by rfl) :
    QE m X (.Call (.Attribute o w apos) (e :: es) [] pos) (tMethS C w sp E to t) := by
  refine ⟨fun pins z σ H Y hz I h => ?_⟩
  refine PySem.W.methodCall_KW (pl := pl) (thm hz (he.run pins z σ H _ hz I h) fun u s1 h1 ⟨x, H1, I1, rx, a, dx, fs, ex, ea, l, q⟩ => ?_) ht
  subst ex
  obtain rfl : u = Value.ref a := rx
  refine getmeth_ok I1 ea c hm l ?_
  refine PySem.W.callWith_K (first := [.ref a]) (h₀ := X.base) I.ok.mod.kin hm.kp (thm h1 (ha.run pos pins s1 σ H1 _ h1 I1 q) fun us s2 h2 ⟨vs, H2, I2, r, q2⟩ => ⟨I2.kIn, ?_⟩) hst hpl
  exact run_call (us := .ref a :: us) (vs := .ref a :: vs) F h2 hr hb (hx σ) I2 (.cons rfl r) q2
theorem qe_meth0 {pl : Sem Bool} {w : Str} {to : TE} (he : QE m X o to) (c : Cls X.K C) (hm : Meth X.K C w f) (F : FnM m X.prog X.w X.K X.mg X.base (L2.CX X.prog X.w) k f fd ps sp) (hr : RoomG k X.A) (hb : Binds X.K fd ps []) (hx : ∀ σ, PassesAt (L2.CX X.prog X.w) X σ (E σ))
    (ht : eval (.Call (.Attribute o w apos) [] [] pos) X.env = (do
      let ov ← eval o X.env
      standAt apos.atName
      let (f, first) ← holding [ov] (getMethod ov w pl)
      callWith pos f first (backTo pos (starEach [] X.env)) (backToKw pos (keywordEach [] X.env))) := by rfl) :
    QE m X (.Call (.Attribute o w apos) [] [] pos) (tMethS C w sp E to tNil) := by
  refine ⟨fun pins z σ H Y hz I h => ?_⟩
  refine PySem.W.methodCall_KW (pl := pl) (thm hz (he.run pins z σ H _ hz I h) fun u s1 h1 ⟨x, H1, I1, rx, a, dx, fs, ex, ea, l, q⟩ => ?_) ht
  subst ex
  obtain rfl : u = Value.ref a := rx
  refine getmeth_ok I1 ea c hm l ?_
  exact PySem.W.callWith_K0 (first := [.ref a]) I1.kIn hm.kp (run_call (us := [.ref a]) (vs := [.ref a]) F h1 hr hb (hx σ) I1 (.cons rfl .nil) q)
/-- o.m(..), o an instance of class c -/
def eMeth (c : Nat) (f : FSem) (g : Sem') (t : SemA) : Sem' := fun δ μ k x => g δ μ (fun r μ1 => match r.d with
  | .obj c' vs => c' = c ∧ t δ μ1 (fun ds μ2 => f (.obj c vs :: ds) μ2 k x) x
  | .loc n => match μ1[n]? with
    | some (.ins c' _) => c' = c ∧ t δ μ1 (fun ds μ2 => f (.loc n :: ds) μ2 k x) x
    | _ => False
  | _ => False) x
theorem meth_core {w : Str} {c : Nat} {g : FSem} {go : Sem'} {t : SemA} {n : Nat} {σ : St} {H : Hp} {Q : VK} (hw : w ∉ T.fn c) (hf : ∀ ds μ k x, g ds μ k x → ds.length = n) (q : tE X.K T B W (eMeth c g go t) σ H Q) :
    tMethS (T.ca c) w (spD X.K T n g) (WE W) (tD X.K T B W go) (tA X.K T B W t) σ H Q := by
  obtain ⟨G, δ, μ, k, xx, w0, q, hk, hx⟩ := q
  refine ⟨G, δ, μ, _, xx, w0, q, fun r μ1 q1 v G1 H1 w1 x1 ok => ?_, hx⟩
  split at q1
  · rename_i c' vs hd
    obtain ⟨rfl, q1⟩ := q1
    rw [hd] at ok
    have ok' := ok
    simp only [Rep] at ok'
    obtain ⟨a, dx, fs, rfl, _, h1, h2, h3⟩ := ok'
    refine ⟨a, dx, fs, rfl, h1, lookup_none (by rw [h2]; exact hw), G1, δ, μ1, _, xx, w1, q1, fun ds μ2 q2 vs' G2 H2 w2 x2 r2 => ⟨G2, μ2, _, k, xx, hf _ _ _ _ q2, w2.g, .cons (Rep.kp (x2.kp w1.g) _ _ ok) r2, q2,
      fun r μ3 q3 v3 G3 H3 w3 x3 ok n => hk _ _ q3 v3 G3 H3 (w2.ext x3 w3) ((x1.trans x2).trans x3) ok ((n.back x2).back x1), fun e μ3 q3 G3 H3 cls od w3 x3 ok => hx _ _ q3 G3 H3 cls od (w2.ext x3 w3) ok⟩, hx⟩
  · rename_i n hd
    split at q1
    · rename_i c' vs hm
      obtain ⟨rfl, q1⟩ := q1
      rw [hd] at ok
      have ok' := ok
      simp only [Rep] at ok'
      obtain ⟨a, rfl, hn⟩ := ok'
      obtain ⟨dx, fs, h1, h2, h3⟩ := w1.g.ce n a _ hn hm
      refine ⟨a, dx, fs, rfl, h1, lookup_none (by rw [h2]; exact fun z => hw (List.mem_of_mem_take z)), G1, δ, μ1, _, xx, w1, q1, fun ds μ2 q2 vs' G2 H2 w2 x2 r2 => ⟨G2, μ2, _, k, xx, hf _ _ _ _ q2, w2.g, .cons (Rep.kp (x2.kp w1.g) _ _ ok) r2, q2,
        fun r μ3 q3 v3 G3 H3 w3 x3 ok n => hk _ _ q3 v3 G3 H3 (w2.ext x3 w3) ((x1.trans x2).trans x3) ok ((n.back x2).back x1), fun e μ3 q3 G3 H3 cls od w3 x3 ok => hx _ _ q3 G3 H3 cls od (w2.ext x3 w3) ok⟩, hx⟩
    · exact q1.elim
  · exact q1.elim
theorem de_meth (c : Nat) {pl : Sem Bool} {w : Str} {g : FSem} {go : Sem'} {t : SemA} (he : DV m X T B W o go) (cl : Cls X.K (T.ca c)) (hm : Meth X.K (T.ca c) w f) (F : FnD n X T j f fd ps g) (hr : RoomG k X.A) (hb : Binds X.K fd ps []) (tk : Takes X W) (hf : ∀ ds μ k x, g ds μ k x → ds.length = ps.length) (ha : DA m X T B W (e :: es) t)
    (hw : w ∉ T.fn c) (hn : n ≤ m := by omega) (hj : j ≤ k := by omega) (hst : starEach (e :: es) X.env = (false, eval e X.env) :: starEach es X.env := by rfl) (hpl : (backTo pos (starEach es X.env)).any (·.1) = false := by rfl)
    (ht : eval (.Call (.Attribute o w apos) (e :: es) [] pos) X.env = (do
      let ov ← eval o X.env
      standAt apos.atName
      let (f, first) ← holding [ov] (getMethod ov w pl)
      callWith pos f first (backTo pos (starEach (e :: es) X.env)) (backToKw pos (keywordEach [] X.env))) := by rfl) :
    DE m X T B W (.Call (.Attribute o w apos) (e :: es) [] pos) (eMeth c g go t) :=
  QE.weak (qe_meth he cl hm (F.up hn) (hr.mono hj) hb (fun σ => passAt tk σ) ha hst hpl ht) fun σ H Q q => meth_core hw hf q
theorem de_meth0 (c : Nat) {pl : Sem Bool} {w : Str} {g : FSem} {go : Sem'} (he : DV m X T B W o go) (cl : Cls X.K (T.ca c)) (hm : Meth X.K (T.ca c) w f) (F : FnD n X T j f fd ps g) (hr : RoomG k X.A) (hb : Binds X.K fd ps []) (tk : Takes X W) (hf : ∀ ds μ k x, g ds μ k x → ds.length = ps.length)
    (hw : w ∉ T.fn c) (hn : n ≤ m := by omega) (hj : j ≤ k := by omega)
    (ht : eval (.Call (.Attribute o w apos) [] [] pos) X.env = (do
      let ov ← eval o X.env
      standAt apos.atName
      let (f, first) ← holding [ov] (getMethod ov w pl)
      callWith pos f first (backTo pos (starEach [] X.env)) (backToKw pos (keywordEach [] X.env))) := by rfl) :
    DE m X T B W (.Call (.Attribute o w apos) [] [] pos) (eMeth c g go aNil) :=
  QE.weak (qe_meth0 he cl hm (F.up hn) (hr.mono hj) hb (fun σ => passAt tk σ) ht) fun σ H Q q => by
    have h := meth_core hw hf q
    obtain ⟨G, δ, μ, k, xx, w0, q, hk, hx⟩ := h
    exact ⟨G, δ, μ, k, xx, w0, q, fun r μ1 q1 v G1 H1 w1 x1 ok => by
      obtain ⟨a, dx, fs, e1, e2, e3, G', δ', μ', k', x', w', q', hk', hx'⟩ := hk r μ1 q1 v G1 H1 w1 x1 ok
      exact ⟨a, dx, fs, e1, e2, e3, hk' _ _ q' [] G' _ w' w'.same .nil⟩, hx⟩

/-! ### properties: they raise nothing -/
abbrev EF : XK := fun _ _ _ => False
theorem cx_no {P : Program} {w : World} {outer : List PySem.Env} {H : Hp} {z : Shared} {e : Value} {z' : Shared} (h : L2.CX P w outer H z EF e z') : False := by
  obtain ⟨a, B, H', cls, d, ea, fl, hok, ub, na, os, ag, he⟩ := h
  exact he
def xNo : KX := fun _ _ => False
theorem prop_run {pins : List (Addr × Obj)} {σ : St} {H : Hp} {z : Shared} {Y : VK} {w : Str} {q C' g' dx a : Addr} {fs : List (Str × V)} {bb : Bool} {E' : Value → Shared → Prop} (I : Inv X pins σ H z) (ea : H a = some (.ins C' dx fs)) (c : Cls X.K C') (hp : PropOf X.K C' w q g')
    (F : FnM 0 X.prog X.w X.K X.mg X.base (L2.CX X.prog X.w) k g' fd ps sp) (hr : RoomG (k + 1) X.A) (hb : Binds X.K fd ps []) (h : sp [.ref a] H Y EF) : wpAny (model X.prog X.w) X.A (getAttr (.ref a) w bb) (EP X pins σ Y) E' z := by
  obtain ⟨mA, O, _, _, _, _⟩ := ins_get I.hok ea
  obtain ⟨od, J, _⟩ := O.look
  obtain ⟨more, rc⟩ := hp.rec_
  have I1 := I.tok (z.toks + 1)
  have hl : ([Value.ref a] ++ ([] : List Value)).length = ps.length := by
    rw [← F.len _ _ _ _ h]; rfl
  have isC : (PySem.W.clsIn X.K C').isSome = true := by
    obtain ⟨cd, hc, _⟩ := PySem.W.any_some c.hd
    rw [hc]
    rfl
  refine PySem.W.get_bind I.kIn J (PySem.W.plainGet_of (c.get w)).1 (PySem.W.findObj_data isC hp.at_ hp.get hp.tak) (PySem.W.plainGet_of (c.get w)).2 (wpAny_call (PySem.W.prop_get (s := { z with toks := z.toks + 1 }) I.kIn rc ?_))
  have bd := hb { z with toks := z.toks + 1 } [.ref a] I1.kIn hl
  refine codeAny_mono (F.run X.A.in1 X.stack { z with toks := z.toks + 1 } H ⟨[.ref a], []⟩ [.ref a] [.ref a] Y EF (Nat.zero_le _) hr.in1 I1.env0.in1 bd (.cons rfl .nil) h) fun r z' hq => ?_
  cases r with
  | error er => exact (cx_no hq).elim
  | ok fl =>
    cases fl with
    | ret u =>
      obtain ⟨v, H', I3, rv, q3⟩ := I1.after hq
      show wpAny _ _ (handedOut u) _ _ _
      rw [PySem.W.handedOut_of (handed_of rv)]
      exact wpAny_pure ⟨v, H', I3, rv, q3⟩
    | next => exact hq.elim
    | brk => exact hq.elim
    | cont => exact hq.elim
def eProp (c : Nat) (f : FSem) (g : Sem') : Sem' := fun δ μ k x => g δ μ (fun r μ1 => match r.d with
  | .obj c' vs => c' = c ∧ f [.obj c vs] μ1 k xNo
  | _ => False) x
theorem de_prop (c : Nat) {w : Str} {g : FSem} {go : Sem'} {pa fa : Addr} (he : DV m X T B W o go) (cl : Cls X.K (T.ca c)) (hp : PropOf X.K (T.ca c) w pa fa) (F : FnD 0 X T j fa fd ps g) (hr : RoomG k X.A) (hb : Binds X.K fd ps []) (hf : ∀ ds μ k x, g ds μ k x → ds.length = ps.length)
    (hj : j + 1 ≤ k := by omega) (hab : attributeBase o w X.env (eval o X.env) = eval o X.env := by rfl) : DE m X T B W (.Attribute o w pos) (eProp c g go) := by
  refine QE.weak (t := tProp (T.ca c) (spD X.K T ps.length g) [] EF (tD X.K T B W go)) ⟨fun pins z σ H Y hz I h => ?_⟩ fun σ H Q ⟨G, δ, μ, k, xx, w0, q, hk, hx⟩ => ?_
  · refine attr_of hab (thn (he.run pins z σ H _ hz I h) fun u s1 ⟨x, H1, I1, rx, a, dx, fs, ex, ea, q⟩ => ?_)
    subst ex
    obtain rfl : u = Value.ref a := rx
    exact prop_run I1 ea cl hp F (hr.mono hj) hb q
  · refine ⟨G, δ, μ, _, xx, w0, q, fun r μ1 q1 v G1 H1 w1 x1 ok => ?_, hx⟩
    split at q1
    · rename_i c' vs hd
      obtain ⟨rfl, q1⟩ := q1
      rw [hd] at ok
      have ok' := ok
      simp only [Rep] at ok'
      obtain ⟨a, dx, fs, rfl, _, h1, h2, h3⟩ := ok'
      exact ⟨a, dx, fs, rfl, h1, G1, μ1, _, k, _, hf _ _ _ _ q1, w1.g, .one ok, q1, fun r μ3 q3 v3 G3 H3 w3 x3 ok n => hk _ _ q3 v3 G3 H3 (w1.ext x3 w3) (x1.trans x3) ok (n.back x1), fun e μ3 q3 => q3.elim⟩
    · exact q1.elim

/-! ### len of an instance -/
theorem run_in1 {pins : List (Addr × Obj)} {σ : St} {H : Hp} {z : Shared} {Y : VK} {us : List Value} {vs : List V} {xe : Value → Shared → Prop} (F : FnM m X.prog X.w X.K X.mg X.base (L2.CX X.prog X.w) k f fd ps sp) (hz : m ≤ z.toks) (hr : RoomG (k + 1) X.A) (hb : Binds X.K fd ps []) (I : Inv X pins σ H z) (r : Vals vs us) (h : sp vs H Y EF) :
    wpAny (model X.prog X.w) X.A.in1 (call (.ref f) us) (EP X pins σ Y) xe z := by
  have hl : us.length = ps.length := by rw [← r.length]; exact F.len _ _ _ _ h
  have b := hb z us I.kIn (by rw [List.append_nil]; exact hl)
  rw [List.append_nil] at b
  refine wpAny_call (codeAny_mono (F.run X.A.in1 X.stack z H ⟨us, []⟩ us vs Y EF hz hr.in1 I.env0.in1 b r h) fun r z' hq => ?_)
  cases r with
  | error e => exact (cx_no hq).elim
  | ok fl =>
    cases fl with
    | ret u => exact I.after hq
    | next => exact hq.elim
    | brk => exact hq.elim
    | cont => exact hq.elim
/-- a class whose __len__ is the def at f -/
structure LenOf (K : PySem.W.Frag) (C f : Addr) : Prop where
  at_ : PySem.W.findIn K (.ref C) "__len__" = some (some (.ref f))
  fn : PySem.W.isFn K (.ref f) = true
theorem len_inst {Y : Value → Shared → Prop} {pins : List (Addr × Obj)} {σ : St} {H : Hp} {z : Shared} {a dx : Addr} {fs : List (Str × V)} {xe : Value → Shared → Prop} (I : Inv X pins σ H z) (ea : H a = some (.ins C dx fs)) (L : LenOf X.K C f)
    (h : wpAny (model X.prog X.w) X.A.in1 (call (.ref f) [.ref a]) (PySem.W.LenBack Y) xe z) : wpAny (model X.prog X.w) X.A (call (.builtin "len") [.ref a]) Y xe z := by
  obtain ⟨mA, O, _, _, _, _⟩ := ins_get I.hok ea
  obtain ⟨od, J, _⟩ := O.look
  refine Calls.call_function_entry kind_len plain_len entry_len (args_len1 _) ?_
  unfold Builtin.«len»
  refine wpAny_bind (m := oneArg "len" _) (wpAny_pure ?_)
  refine wpAny_bind (m := callSpecial? (.ref a) (Str.ofString "__len__")) (PySem.W.special_fn I.kIn J L.at_ (beq_iff_eq.mp L.fn) (wpAny_mono h (fun v z' back => ?_) fun _ _ y => y))
  cases v <;> first | exact back.elim | skip
  rename_i n u
  obtain ⟨⟨h0, h1⟩, hq⟩ := back
  refine wpAny_bind (wpAny_holding (wpAny_pure ?_))
  refine wpAny_bind (wpAny_letGo ?_)
  show wpAny _ _ (if n < 0 then _ else _) _ _ _
  rw [if_neg (by omega)]
  show wpAny _ _ (if n ≥ 2 ^ 63 then _ else _) _ _ _
  rw [if_neg (by omega)]
  exact wpAny_bind (wpAny_mkInt (wpAny_pure ⟨_, rfl, hq⟩))
/-- len(x), x plain or an instance of class c whose __len__ does g -/
def cLenO (c : Nat) (g : FSem) : CallF := fun μ ds k => match ds with
  | [.obj c' vs] => c' = c ∧ g [.obj c vs] μ (fun r μ' => μ' = μ ∧ match r with
    | .v (.int n) => 0 ≤ n ∧ n < 2 ^ 63 ∧ k (.v (.int n))
    | _ => False) xNo
  | ds => cLen μ ds k
theorem d_lenO (c : Nat) {g : FSem} (L : LenOf X.K (T.ca c) f) (F : FnD 0 X T j f fd ps g) (hr : RoomG (j + 1) X.A) (hb : Binds X.K fd ps []) (hf : ∀ ds μ k x, g ds μ k x → ds.length = ps.length) : CallD X T (.builtin "len") (cLenO c g) := by
  refine ⟨fun B pins z σ0 H xs us Q I rx ⟨G, μ, σ, δ, ds, k, w, r, o, hk⟩ => ?_⟩
  unfold cLenO at o
  split at o
  · obtain ⟨rfl, o⟩ := o
    obtain ⟨v, ev, rd⟩ := repL1 r
    subst ev
    have rd' := rd
    simp only [Rep] at rd'
    obtain ⟨a, dx, fs, rfl, _, h1, h2, h3⟩ := rd'
    obtain ⟨u, eu, ru⟩ := vals1 rx
    subst eu
    obtain rfl : u = Value.ref a := ru
    refine len_inst I h1 L ?_
    refine wpAny_mono (run_in1 (vs := [V.ref a]) (Y := fun v H' => ∃ n : Int, v = .int n ∧ 0 ≤ n ∧ n < 2 ^ 63 ∧ Q (.int n) H') F (Nat.zero_le _) hr hb I (.cons rfl .nil) ⟨G, μ, _, _, _, hf _ _ _ _ o, w.g, .one rd, o, fun r μ3 q3 v3 G3 H3 w3 x3 ok n => ?_, fun e μ3 q3 => q3.elim⟩) (fun v z' hv => ?_) fun _ _ x => x
    · obtain ⟨rfl, q3⟩ := q3
      split at q3
      · obtain ⟨n0, n1, q3⟩ := q3
        simp only [ErOk, Rep] at ok
        exact ⟨_, ok, n0, n1, hk _ q3 _ G3 H3 (w.ext x3 w3) x3 (by simp only [ErOk, Rep]) .v⟩
      · exact q3.elim
    · obtain ⟨v0, H', I', rv, n, rfl, n0, n1, q⟩ := hv
      obtain ⟨t, rfl⟩ := (show ∃ t, v = Value.int n t from rv)
      exact ⟨⟨n0, n1⟩, .int n, H', I'.tok _, ⟨_, rfl⟩, q⟩
  · exact d_len.run B pins z σ0 H xs us Q I rx ⟨G, μ, σ, δ, ds, k, w, r, o, hk⟩

/-! ### a constant of a class -/
theorem de_cval {w : Str} {mc u : Value} {v : V} {d : D} {D0 : Addr} (he : PE X o (tC (.ref D0))) (r : ClX.CRead X.K D0 mc) (k : ClX.CVal X.K D0 mc w v u) (rep : ∀ G H, Rep X.K T G H d v) (hb : attributeBase o w X.env (eval o X.env) = eval o X.env := by rfl) : DE m X T B W (.Attribute o w pos) (eC d) :=
  QE.weak (t := fun _ H Q => Q v H) ⟨fun pins z σ H Y hz I q => attr_of hb (thn (he.run pins z σ H (fun x H1 => x = .ref D0 ∧ Y v H1) I ⟨rfl, q⟩) fun ov s1 ⟨x, H1, I1, rx, ex, q1⟩ => by
    subst ex
    obtain rfl : ov = Value.ref D0 := rx
    exact ClX.getcval_ok I1 r k fun s2 I2 => ⟨v, H1, I2, k.rel, q1⟩)⟩ fun σ H Q ⟨G, δ, μ, k, xx, w, q, hk, hx⟩ => hk _ _ q v G H w w.same (rep G H) .v

/-! ### raise -/
def sRaise (c : Nat) : SSem := fun δ μ D => D.ex ⟨c, []⟩ δ μ
theorem ds_raise (c : Nat) (hc : X.calm = true) (tk : Takes X W) (h : PMk X e (fun _ H Q => Q (.ref (T.ca c)) none H)) : DS m X T B W (.Raise (some e) none pos) (sRaise c) :=
  QS.weak (qs_of (ps_raise hc tk h)) fun Q σ H ⟨G, δ, μ, D, w, q, en⟩ => en.ex _ _ _ q G H σ _ none w ⟨rfl, .inl ⟨rfl, rfl⟩⟩
end
end L3

namespace L3
open PySem PySem.Spec L2
open PyProof.Rows hiding St
set_option autoImplicit false
section
variable {m : Nat} {X : Cx} {x : Str} {c : Value} {body suite : List Stmt} {s0 : Stmt} {np pos pos' : Pos} {tb : WX → TS} {ts : Addr → Value → Option Addr → TS} {Wo : WX}
/-- try: .. except x: .. with tokens given out -/
theorem qs_try (hs : X.stack = X.env :: X.outer) (hf : X.env.frame = some X.env.locals) (hc : Names X x c) (tk : Takes X Wo)
    (hb : ∀ (V0 : WX) (pq : List (Addr × Obj)) (xe : Value → Shared → Prop), Takes (X.tr pq xe) V0 → PassesOwn (model X.prog X.w) X.A X.env xe → QSs m (X.tr pq xe) body (tb V0))
    (hsu : ∀ (b : Addr) (oe : Obj) (cls : Value) (d : Option Addr) (pq : List (Addr × Obj)), Zc cls d oe → (∃ fv, oe.data = .fields fv) → PSs (X.suite b ((b, oe) :: pq)) (s0 :: suite) (ts b cls d)) :
    QS m X (.Try body [.ExceptHandler (some (.Name x np)) none (s0 :: suite) pos'] [] [] pos) (fun D σ H => tb (wOnly X.K c ts Wo D) D σ H) := by
  refine ⟨fun pins z σ H D hz J0 h => ?_⟩
  have ok := J0.ok
  have frms : X.A.frames = some (X.env :: X.outer) := by rw [ok.frames, hs]
  refine wpAny_Try_except ?_
  refine wpAny_mono ((hb (wOnly X.K c ts Wo D) (X.pn ++ pins) (fun e z1 => wpAny (model X.prog X.w) X.A (noteFrame e X.env) (fun _ z2 => wpAny (model X.prog X.w) X.A (setFlight e none) (fun _ z3 =>
    wpAny (model X.prog X.w) X.A (handleBy e X.env [.ExceptHandler (some (.Name x np)) none (s0 :: suite) pos']) (SP X pins D) X.xe z3) X.xe z2) X.xe z1) (fun u z' got => ?_) PassesOwn.looking).run [] z σ H D hz (J0.toTry _) h) (fun fl z1 fin => ?_) (fun e z1 he => he)
  · obtain ⟨b, B, zI, pins', σ', H', cls, d, rfl, J', nb, up, sky, na, os, ag, t, ht1, tyes, tno⟩ := got
    have J : Inv X pins σ' H' zI := J'.ofTry ok
    have sky' : Sky B (X.env :: X.outer) b (Zc cls d) X.env.locals z'.heap := by rw [← hs]; exact sky
    show wpAny (model X.prog X.w) X.A (noteFrame (.ref b) X.env) _ _ _
    refine Sky.land Zc.steady frms hf sky' fun g3 fl3 up3 => ?_
    have J3 : Inv X pins σ' H' { z' with heap := g3 } := J.landed nb fl3.1 (up.trans up3) os ag
    obtain ⟨oe3, vs3, he3, hz3, hd3⟩ := fl3.there
    have off : ∀ {g : Heap} {q : Obj} {fv : Array Value}, g.FunFrames B (X.env :: X.outer) → g.get? b = some q → q.data = .fields fv → b ∉ frs (X.env :: X.outer) := fun {g q fv} ff e dd hm => by
      obtain ⟨_, q', e', hnf⟩ := ff.mem hm
      rw [e] at e'; cases e'
      exact hnf _ dd
    have offB := off fl3.2.2.1 he3 hd3
    have offL : b ≠ X.env.locals := fun q => offB (List.mem_filterMap.mpr ⟨X.env, List.mem_cons_self, by rw [hf, q]⟩)
    have offF : b ∉ X.fs := fun hm => by
      obtain ⟨e, he, q⟩ := List.mem_filterMap.mp hm
      exact offB (List.mem_filterMap.mpr ⟨e, List.mem_cons_of_mem _ he, q⟩)
    have J4 := J3.suite he3 hd3 na offL offF
    refine wpAny_handleBy_cons (codeAny_handlers_test ?_) (by intro q; cases q)
    have tyB : PySem.W.Looks (model X.prog X.w) g3 (typeOf (.ref b)) cls := fun A Y E r k q => wpAny_typeOf_ref (k _ _ he3) (by rw [hz3.1]; exact q)
    have mat := PySem.W.exm_one (M := model X.prog X.w) (J3.kIn) tyB ht1
    have name : ∀ {Y : Value → Shared → Prop} {E : Value → Shared → Prop}, Y c { z' with heap := g3 } → wpAny (model X.prog X.w) (X.A.mark (some (.ref b))) (eval (.Name x np) X.env) Y E { z' with heap := g3 } := fun {Y E} q => by
      obtain ⟨hg, hdbg, hm | ⟨hm, hv, hnn⟩⟩ := hc
      · exact ld_glob (X := X.suite b ((b, oe3) :: (X.pn ++ pins))) J4 hg hm q hdbg
      · exact ld_blt (X := X.suite b ((b, oe3) :: (X.pn ++ pins))) J4 hg hm hv q hnn hdbg
    refine name (mat.here ?_)
    cases t with
    | true =>
      refine codeAny_handlers_suite ?_
      refine HandSPX.lands_againZ fl3 fun g4 fl4 up4 => ?_
      have J5 : Inv X pins σ' H' { z' with heap := g4 } := J.landed nb fl4.1 ((up.trans up3).trans up4) os ag
      obtain ⟨oe4, vs4, he4, hz4, hd4⟩ := fl4.there
      have J6 := J5.suite he4 hd4 na offL offF
      refine wpAny_mono ((hsu b oe4 cls d (X.pn ++ pins) hz4 ⟨_, hd4⟩).run [] _ _ H' _ J6 (tyes rfl b na)) (fun fl z6 fin => ?_) (fun _ _ no => False.elim no)
      cases fl with
      | next =>
        obtain ⟨σ6, H6, J7, q6⟩ := fin
        exact ⟨_, _, J7.unsuite ok, q6⟩
      | brk =>
        obtain ⟨σ6, H6, J7, q6⟩ := fin
        exact ⟨_, _, J7.unsuite ok, q6⟩
      | cont =>
        obtain ⟨σ6, H6, J7, q6⟩ := fin
        exact ⟨_, _, J7.unsuite ok, q6⟩
      | ret u =>
        obtain ⟨v6, σ6, H6, J7, r6, q6⟩ := fin
        exact ⟨_, _, _, J7.unsuite ok, r6, q6⟩
    | false =>
      show wpAny _ X.A (handleBy (.ref b) X.env []) _ _ _
      refine wpAny_handleBy_nil ?_
      obtain ⟨k1, k2, k3, oe, fv, ty, oT, tr, he, hz', hd, he1, hr⟩ := id fl3
      unfold PySem.passOn
      refine wpAny_bind (wpAny_field he hd he1 ?_)
      rw [if_neg (show ¬ ((Value.ref ty == Value.none) = true) from by simp)]
      have fin : wpAny (model X.prog X.w) X.A (setFlight (.ref b) X.env.frame) (fun _ z4 => wpAny (model X.prog X.w) X.A (throw (.ref b) : Sem Flow) (SP X pins D) X.xe z4) X.xe { z' with heap := g3 } := by
        rw [hf]
        refine HandSPX.setFlight_upZ fl3 fun g4 hh4 up4 => wpAny_throw (tk _ _ ?_)
        exact ⟨b, B, zI, pins, σ', H', cls, d, rfl, J, nb, (up.trans up3).trans up4, .inr (.inr (by rw [hs]; exact hh4)), na, os, ag, tno rfl⟩
      first
        | exact wpAny_bind (wpAny_pure (wpAny_bind fin))
        | exact wpAny_bind fin
  · cases fl with
    | next =>
      obtain ⟨σ', H', J', q⟩ := fin
      exact wpAny_execs_nil ⟨σ', H', J'.ofTry ok, q⟩
    | brk =>
      obtain ⟨σ', H', J', q⟩ := fin
      exact ⟨σ', H', J'.ofTry ok, q⟩
    | cont =>
      obtain ⟨σ', H', J', q⟩ := fin
      exact ⟨σ', H', J'.ofTry ok, q⟩
    | ret u =>
      obtain ⟨v, σ', H', J', r, q⟩ := fin
      exact ⟨v, σ', H', J'.ofTry ok, r, q⟩
end

def noOwn (δ : Env') : Bool := δ.all fun o => match o with
  | some r => !r.own
  | none => true
theorem noOwn_at {δ : Env'} (h : noOwn δ = true) {i : Nat} {r : Rv} (e : δ[i]? = some (some r)) : r.own = false := by
  have := List.all_eq_true.mp h _ (List.mem_of_getElem? e)
  simpa using this
theorem Wf.rebase {K : PySem.W.Frag} {T : Tab} {B : Bs} {G : Gh} {μ : Mu} {H : Hp} {σ : St} {δ : Env'} (w : Wf K T B G μ H σ δ) (h : noOwn δ = true) (a : Addr) : Wf K T ⟨G, H, a⟩ G μ H σ δ :=
  ⟨w.g, .refl w.g, w.ln, w.sl, fun i r v e _ o => absurd o (by rw [noOwn_at h e]; decide), fun i j r r' p e _ o _ _ _ => absurd o (by rw [noOwn_at h e]; decide), fun i c vs e => absurd (noOwn_at h e) (fun z => Bool.noConfusion z)⟩
theorem Wf.unbase {K : PySem.W.Frag} {T : Tab} {B : Bs} {G G1 : Gh} {μ1 : Mu} {H H1 : Hp} {σ : St} {δ : Env'} (x : Ext B.G B.H G H) (w : Wf K T ⟨G, H, B.s⟩ G1 μ1 H1 σ δ) : Wf K T B G1 μ1 H1 σ δ :=
  ⟨w.g, x.trans w.x, w.ln, w.sl, fun i r v e ev => (w.fr i r v e ev).back x, w.ds, w.sf⟩
def sTry (cs : List Nat) (sub : Nat → Bool) (body su : SSem) : SSem := fun δ μ D => noOwn δ = true ∧ body δ μ { D with ex := fun e δ' μ' => e.c ∈ cs ∧ if sub e.c = true then su δ' μ' { D with ex := fun _ _ _ => False } else D.ex e δ' μ' }
section
variable {m : Nat} {X : Cx} {T : Tab} {B : Bs} {W : WX} {x : Str} {body suite : List Stmt} {s0 : Stmt} {np pos pos' : Pos}
theorem ds_try (cn : Nat) (cs : List Nat) (sub : Nat → Bool) {bs su : SSem} (hs : X.stack = X.env :: X.outer) (hf : X.env.frame = some X.env.locals) (hc : Names X x (.ref (T.ca cn))) (tk : Takes X W) (hsub : ∀ j ∈ cs, PySem.W.exmOne X.K (.ref (T.ca j)) (.ref (T.ca cn)) = some (sub j))
    (hb : ∀ (B : Bs) (V0 : WX) (pq : List (Addr × Obj)) (xe : Value → Shared → Prop), Takes (X.tr pq xe) V0 → PassesOwn (model X.prog X.w) X.A X.env xe → DSs m (X.tr pq xe) T B V0 body bs)
    (hsu : ∀ (b : Addr) (oe : Obj) (pq : List (Addr × Obj)), DSs 0 (X.suite b ((b, oe) :: pq)) T B W0 (s0 :: suite) su) :
    DS m X T B W (.Try body [.ExceptHandler (some (.Name x np)) none (s0 :: suite) pos'] [] [] pos) (sTry cs sub bs su) := by
  refine ⟨fun pins z σ H Q hz I ⟨G, δ, μ, D, w, ⟨hno, q⟩, en⟩ => ?_⟩
  refine (qs_try (m := m) (c := .ref (T.ca cn)) (Wo := W) (tb := fun V0 => tS X.K T ⟨G, H, B.s⟩ V0 bs) (ts := fun _ _ _ => tS X.K T B W0 su) hs hf hc tk (fun V0 pq xe tk hp => hb _ V0 pq xe tk hp)
    (fun b oe cls d pq _ _ => ⟨fun pins s σ H D I q => (hsu b oe pq).run pins s σ H D (Nat.zero_le _) I q⟩)).run pins z σ H Q hz I ⟨G, δ, μ, _, w.rebase hno _, q, ?_⟩
  refine ⟨fun δ' μ' h G' H' σ' w' k => en.nx _ _ h G' H' σ' (.unbase w.x w') k, fun δ' μ' h G' H' σ' w' k => en.bk _ _ h G' H' σ' (.unbase w.x w') k, fun δ' μ' h G' H' σ' w' k => en.ct _ _ h G' H' σ' (.unbase w.x w') k,
    fun r μ' h v G' H' w' x' ok n => en.rt r μ' h v G' H' w' (w.x.trans x') ok (n.back w.x), fun e δ' μ' h G' H' σ' cls od w' ok => ?_⟩
  obtain ⟨hm, h⟩ := h
  refine ⟨sub e.c, by rw [ok.1]; exact hsub _ hm, fun hb b _ => ?_, fun hb => ?_⟩
  · rw [if_pos hb] at h
    exact ⟨G', δ', μ', _, .unbase w.x w', h, ⟨fun δ2 μ2 h2 G2 H2 σ2 w2 k2 => en.nx _ _ h2 G2 H2 σ2 w2 ((w'.x.kp w.g).trans k2), fun δ2 μ2 h2 G2 H2 σ2 w2 k2 => en.bk _ _ h2 G2 H2 σ2 w2 ((w'.x.kp w.g).trans k2), fun δ2 μ2 h2 G2 H2 σ2 w2 k2 => en.ct _ _ h2 G2 H2 σ2 w2 ((w'.x.kp w.g).trans k2),
      en.rt, fun _ _ _ z => z.elim⟩⟩
  · rw [if_neg (by rw [hb]; decide)] at h
    exact en.ex _ _ _ h G' H' σ' cls od (.unbase w.x w') ok
end
end L3

namespace L3
open PySem PySem.Spec L2
open PyProof.Rows hiding St
set_option autoImplicit false
section
variable {m : Nat} {X : Cx} {T : Tab} {B : Bs} {W : WX} {a b e : Expr} {pos p1 p2 p3 p4 : Pos}
/-! ### repr of nested data: compared -/
def isSeqD : D → Bool
  | .tup _ | .lst _ => true
  | _ => false
structure ROk (μ : Mu) (d : D) (p : PyData) : Prop where
  sq : isSeqD (vw μ d) = true
  py : (vw μ d).py = some p
  sh : p.showable = true
  dp : p.depth ≤ 60
  ln : p.shown.length ≤ sizeLine
def rRepr (K : PySem.W.Frag) : List V → Hp → VK → Prop := fun xs H Q => ∃ (a : Addr) (p : PyData), xs = [.ref a] ∧ Dp K H (.ref a) p ∧ p.canLay0 = true ∧ p.showable = true ∧ p.depth ≤ 60 ∧ p.shown.length ≤ sizeLine ∧ Q (.str p.shown) H
theorem call_repr (hg : X.A.guards = some []) (hu : X.A.units + 64 < cLine) : CallR X (.builtin "repr") (rRepr X.K) := by
  rintro pins z σ H xs us Q I r ⟨a, p, rfl, hd, hc, hs, hp, hl, q⟩
  obtain ⟨u, eu, ru⟩ := vals1 r
  subst eu
  obtain rfl : u = Value.ref a := ru
  obtain ⟨as, rd⟩ := Dp.reads I p _ _ hd (show RelV (.ref a) (.ref a) from rfl)
  exact repr_of_reads' rd hs (PyData.noDict_hsm (PyData.hasDict_of_canLay p hc)) hg (by omega) (fun b o e => e) (fun h' u tk hk => ⟨.str p.shown, H, I.kept (t' := tk) hk, ⟨u, rfl⟩, q⟩) hl
def eRNe (g h : Sem') : Sem' := fun δ μ k x => g δ μ (fun r μ1 => ∃ p, ROk μ1 r.d p ∧ h δ μ1 (fun s μ2 => ∃ q, ROk μ2 s.d q ∧ k (.v (.bl (!(decide (p.shown = q.shown))))) μ2) x) x
theorem rok_rep {G : Gh} {μ : Mu} {H : Hp} (w : WfG X.K T G μ H) {d : D} {p : PyData} {v : V} (r : Rep X.K T G H d v) (ok : ROk μ d p) : ∃ a, v = .ref a ∧ Dp X.K H (.ref a) p ∧ p.canLay0 = true := by
  obtain ⟨h1, h2⟩ := vw_dp w r ok.py
  have hr : ∃ a, v = .ref a := by
    have hs := ok.sq
    cases d <;> simp only [vw, isSeqD, Bool.false_eq_true] at hs
    case tup => simp only [Rep] at r; obtain ⟨a, vs, rfl, _⟩ := r; exact ⟨a, rfl⟩
    case lst => simp only [Rep] at r; obtain ⟨a, vs, rfl, _⟩ := r; exact ⟨a, rfl⟩
    case loc => simp only [Rep] at r; obtain ⟨a, rfl, _⟩ := r; exact ⟨a, rfl⟩
  obtain ⟨a, rfl⟩ := hr
  exact ⟨a, rfl, h1, h2⟩
theorem repr_core {g h : Sem'} {σ : St} {H : Hp} {Q : VK} (q : tE X.K T B W (eRNe g h) σ H Q) :
    tOp rNe (tCB (rRepr X.K) (tCons (tD X.K T B W g) tNil)) (tCB (rRepr X.K) (tCons (tD X.K T B W h) tNil)) σ H Q := by
  obtain ⟨G, δ, μ, k, x, w, q, hk, hx⟩ := q
  refine ⟨G, δ, μ, _, x, w, q, fun r μ1 q1 v1 G1 H1 w1 x1 r1 => ?_, hx⟩
  obtain ⟨p, ok, q1⟩ := q1
  obtain ⟨a, rfl, d1, c1⟩ := rok_rep w1.g r1 ok
  refine ⟨a, p, rfl, d1, c1, ok.sh, ok.dp, ok.ln, G1, δ, μ1, _, x, w1, q1, fun s μ2 q2 v2 G2 H2 w2 x2 r2 => ?_, hx⟩
  obtain ⟨p', ok', q2⟩ := q2
  obtain ⟨a', rfl, d2, c2⟩ := rok_rep w2.g r2 ok'
  refine ⟨a', p', rfl, d2, c2, ok'.sh, ok'.dp, ok'.ln, rfl, ?_⟩
  refine hk _ _ q2 _ G2 H2 w2 (x1.trans x2) ?_ .v
  simp only [ErOk, Rep]
  congr 1
  simp
theorem dt_reprNe (hgd : X.A.guards = some []) (hu : X.A.units + 64 < cLine) (hg : Gl X "repr") (hm : X.mg "repr" = none) (hv : bootBuiltins "repr" = some (.builtin "repr")) {g h : Sem'} (ha : DV m X T B W a g) (hb : DV m X T B W b h)
    (h1 : starEach (a :: []) X.env = (false, eval a X.env) :: starEach [] X.env := by rfl) (h2 : starEach (b :: []) X.env = (false, eval b X.env) :: starEach [] X.env := by rfl) (hmk : behindInMarks .NotEq (.Call (.Name "repr" p3) [b] [] p4) = false := by rfl) :
    DT m X T B W (.Compare (.Call (.Name "repr" p1) [a] [] p2) [.NotEq] [.Call (.Name "repr" p3) [b] [] p4] pos) (tB (eRNe g h)) :=
  QT.weak (qt_cmpR op_ne (qe_callB (call_repr hgd hu) hg hm hv (qa_cons ha qa_nil h1) (by decide) (by decide) h1 (by rfl)) (qe_callB (call_repr hgd hu) hg hm hv (qa_cons hb qa_nil h2) (by decide) (by decide) h2 (by rfl)) hmk) fun σ H Q ⟨G, δ, μ, k, x, w, q, hk, hx⟩ =>
    repr_core (g := g) (h := h) (W := W) ⟨G, δ, μ, _, x, w, q, fun r μ1 q1 v G1 H1 w1 x1 ok n => by
      unfold b1 at q1
      split at q1
      · simp only [ErOk, Rep] at ok
        exact ⟨_, ok, hk _ _ q1 G1 H1 w1 x1⟩
      · exact q1.elim, hx⟩
end
end L3

namespace L3
open PySem PySem.Spec L2
open PyProof.Rows hiding St
set_option autoImplicit false
/-! ### tokens gained in a for's head -/
section
variable {m n : Nat} {X : Cx} {tg a b e : Expr} {es : List Expr} {te ta tb : TE} {t : TA} {pos p : Pos}
structure QEg (m n : Nat) (X : Cx) (e : Expr) (t : TE) : Prop where
  run : ∀ (pins : List (Addr × Obj)) (z : Shared) (σ : St) (H : Hp) (Y : VK), m ≤ z.toks → Inv X pins σ H z → t σ H Y → wpAny (model X.prog X.w) X.A (eval e X.env) (fun v z' => n ≤ z'.toks ∧ EP X pins σ Y v z') X.xe z
structure QIg (m n : Nat) (X : Cx) (tg iter : Expr) (wi : TI) : Prop where
  run : ∀ (pins : List (Addr × Obj)) (z : Shared) (σ : St) (H : Hp) (R : It → Hp → Prop), m ≤ z.toks → Inv X pins σ H z → wi σ H R →
    wpAny (model X.prog X.w) X.A (eval iter X.env) (fun v z1 => wpAny (model X.prog X.w) X.A (pyIter v) (fun i z2 => n ≤ z2.toks ∧ PIE X pins σ tg R i z2) X.xe z1) X.xe z
theorem qeg_int {i : Int} {j} : QEg m (m + 1) X (.Constant (.int i) j pos) (tC (.int i)) := ⟨fun pins z σ H Y hz I h => wpAny_Constant_int ⟨Nat.succ_le_succ hz, .int i, H, I.tok _, ⟨_, rfl⟩, h⟩⟩
theorem qeg_op {op : Operator} {r : R2} (ho : OpR X (binaryOp op) r) (ha : QEg m n X a ta) (hb : QE n X b tb) : QEg m n X (.BinOp a op b pos) (tOp r ta tb) :=
  ⟨fun pins z σ H Y hz I q => wpAny_BinOp (thn (ha.run pins z σ H _ hz I q) fun v z1 ⟨h1, x, H1, I1, r1, q1⟩ => thm h1 (hb.run pins z1 σ H1 _ h1 I1 q1) fun u z2 h2 ⟨y, H2, I2, r2, q2⟩ => thm h2 (ho pins z2 σ H2 x y v u Y I2 r1 r2 q2) fun w z3 h3 q3 => ⟨h3, q3⟩)⟩
theorem qig_range1 (hg : Gl X "range") (hm : X.mg "range" = none) (ha : QEg m n X a ta) (hs : starEach [a] X.env = [(false, eval a X.env)] := by rfl) : QIg m n X tg (.Call (.Name "range" p) [a] [] pos) (iRng1 (tCons ta tNil)) := by
  refine ⟨fun pins z σ H R hz I q => Call_ (ld_blt I hg hm boot_range (PyProof.Rows.callWith_type1 ?_ hs rfl))⟩
  rw [hs]
  refine Calls.spliced_cons (thn (ha.run pins z σ H _ hz I q) fun v z1 ⟨h1, x, H1, I1, r1, q1⟩ => Calls.spliced_nil ?_)
  obtain ⟨k, en, b1, b2, q1⟩ := q1
  simp only [List.cons.injEq, and_true] at en
  subst en
  obtain ⟨tk, et⟩ := r1
  subst et
  refine thm h1 (call_range_1 (range_it I1 (by omega) (by omega) b1 b2 (by simpa using q1))) fun w z2 h2 q2 => thm h2 q2 fun i z3 h3 q3 => ⟨h3, q3⟩
theorem qs_forG {tg iter : Expr} {wi : TI} {g : TG} {tb : TS} {body : List Stmt} (hp : PassesOwn (model X.prog X.w) X.A X.env X.xe) (hc : X.calm = true) (hi : QIg m n X tg iter wi) (hg : PG X tg g) (hb : QSs n X body tb) (hs : ∀ x, foldedSetIterable iter X.env x = pure x := by intro _; rfl) :
    QS m X (.For tg iter body [] pos) (tFor wi g tb) := by
  refine ⟨fun pins z σ H D hz I q => wpAny_For (thn (hi.run pins z σ H _ hz I q) fun v z1 q1 => thn q1 fun itv z2 ⟨h2, q2⟩ => ?_) hs⟩
  obtain ⟨it, fp, tn, J, H2, ei, I2, T, t0, ok, W, ⟨n0, w0⟩, turn⟩ := q2
  subst ei
  have okf : ∀ {H' : Hp}, (∀ b ∈ fp, H' b = none) → ∀ b ∈ fp, FpOk X pins H' b := fun hn b hb => ⟨hn b hb, (ok b hb).2⟩
  refine codeAny_forLoop_any (fun k z' => n ≤ z'.toks ∧ ∃ i σ' H', Inv X pins σ' H' z' ∧ tn i z'.heap ∧ (∀ b ∈ fp, H' b = none) ∧ W i k σ' H') (fun k z3 ⟨h3, i, σ3, H3, I3, t3, fr3, w3⟩ => ?_) n0 ⟨h2, 0, σ, H2, I2, t0, fun b hb => (ok b hb).1, w0⟩
  rcases turn i k σ3 H3 w3 with ⟨stop, qn⟩ | ⟨go, N, hN, step⟩
  · refine wpAny_passesOwn hp (thn (T.done X rfl rfl rfl hc i pins z3 σ3 H3 X.xe I3 (okf fr3) t3 stop) fun r z4 ⟨er, I4⟩ => ?_)
    subst er
    exact wpAny_execs_nil ⟨σ3, H3, I4, qn⟩
  · refine wpAny_passesOwn hp (thm h3 (T.item X rfl rfl rfl hc i pins z3 σ3 H3 X.xe I3 (okf fr3) t3 go) fun r z4 h4 ⟨u, er, q4⟩ => ?_)
    subst er
    refine wpAny_passesOwn hp (thm h4 q4 fun _ z5 h5 ⟨x, H5, I5, r5, y5, t5, fr5⟩ => ?_)
    have P5 := I5.pinned (okf fr5) (T.obj _ _ t5)
    refine wpAny_passesOwn hp (thm h5 (hg.run _ z5 σ3 H5 x u _ P5 r5 (step x H5 y5)) fun _ z6 h6 ⟨σ6, H6, I6, q6⟩ => ?_)
    refine wpAny_passesOwn hp (thm h6 (hb.run _ z6 σ6 H6 _ h6 I6 q6) fun fl z7 h7 q7 => ?_)
    have more : (∃ σ' H', Inv X (pins ++ pinsAt fp z5.heap) σ' H' z7 ∧ N σ' H') → ∃ k', k' < k ∧ n ≤ z7.toks ∧ ∃ i σ' H', Inv X pins σ' H' z7 ∧ tn i z7.heap ∧ (∀ b ∈ fp, H' b = none) ∧ W i k' σ' H' := fun ⟨σ7, H7, I7, n7⟩ => by
      obtain ⟨k', lt, w7⟩ := hN σ7 H7 n7
      have at7 : ∀ b ∈ fp, ∀ o, z5.heap.get? b = some o → z7.heap.get? b = some o ∧ H7 b = none := fun b hb o eo => by
        have q := I7.pin (b, o) (List.mem_append_right _ (List.mem_append_right _ (mem_pinsAt hb eo)))
        exact ⟨q.1, q.2.1⟩
      refine ⟨k', lt, h7, i + 1, σ7, H7, I7.unpinned, T.keep _ _ _ t5 fun b hb o eo => (at7 b hb o eo).1, fun b hb => ?_, w7⟩
      obtain ⟨o, eo, _⟩ := T.obj _ _ t5 b hb
      exact (at7 b hb o eo).2
    cases fl with
    | next => exact more q7
    | cont => exact more q7
    | brk => obtain ⟨σ7, H7, I7, q8⟩ := q7; exact ⟨σ7, H7, I7.unpinned, q8⟩
    | ret v => obtain ⟨x7, σ7, H7, I7, r7, q8⟩ := q7; exact ⟨x7, σ7, H7, I7.unpinned, r7, q8⟩
theorem QIg.weak {iter : Expr} {t t' : TI} (h : QIg m n X tg iter t) (hw : ∀ σ H R, t' σ H R → t σ H R) : QIg m n X tg iter t' := ⟨fun pins z σ H R hz I q => h.run pins z σ H R hz I (hw σ H R q)⟩
variable {T : Tab} {B : Bs} {W : WX}
/-- range(i op b), i written: it gives a token out -/
theorem dig_range1 {op : Operator} {f : OpF} {h : Sem'} {i : Int} {j} {p2 p3 : Pos} (hg : Gl X "range") (hm : X.mg "range" = none) (ho : OpD X T (binaryOp op) f) (hb : DV (m + 1) X T B W b h) (hs : starEach [.BinOp (.Constant (.int i) j p2) op b p3] X.env = [(false, eval (.BinOp (.Constant (.int i) j p2) op b p3) X.env)] := by rfl) :
    QIg m (m + 1) X tg (.Call (.Name "range" p) [.BinOp (.Constant (.int i) j p2) op b p3] [] pos) (tI X.K T B W (iR1 (aCons (eOp f (eC (.int i)) h) aNil))) :=
  QIg.weak (qig_range1 hg hm (qeg_op (ho.run B) qeg_int hb) hs) fun σ H R ⟨G, δ, μ, k, xx, w, q, hk, hx⟩ => by
    refine ⟨G, δ, μ, _, xx, w, q, fun s μ2 q2 v2 G2 H2 w2 x2 r2 => ⟨G2, μ2, σ, δ, .int i, s.d, _, w2, by simp only [Rep], r2, q2, fun t ht v G3 H3 w3 x3 ok n => ?_⟩, hx⟩
    cases t with
    | ol ds => exact (show False from ht).elim
    | oi c ds => exact (show False from ht).elim
    | v d =>
      cases d with
      | int nn =>
        have ht' : -(2 ^ 62) ≤ nn ∧ nn < 2 ^ 62 ∧ k (rangeD 0 nn) μ2 := ht
        have ok' : v = .int nn := by simpa only [ErOk, Rep] using ok
        have e := good_range (K := X.K) (T := T) (B := B) (G := G3) (H := H3) 0 nn
        rw [Int.sub_zero] at e
        exact ⟨_, by rw [ok'], ht'.1, ht'.2.1, hk _ _ ht'.2.2 _ G3 H3 w3 (x2.trans x3) e⟩
      | _ => exact (show False from ht).elim

theorem ds_forG {ix : List Nat} {tg iter : Expr} {it : SemI} {t : SemG} {s : SSem} {body : List Stmt} (hp : PassesOwn (model X.prog X.w) X.A X.env X.xe) (hc : X.calm = true) (hi : QIg m n X tg iter (tI X.K T B W it)) (hg : DG X T B ix tg t) (hb : DSs n X T B W body s)
    (hs : ∀ x, foldedSetIterable iter X.env x = pure x := by intro _; rfl) : DS m X T B W (.For tg iter body [] pos) (sFor it t s) := QS.weak (qs_forG hp hc hi hg hb hs) fun Q σ H ⟨G, δ, μ, D, w, q, en⟩ =>
  ⟨G, δ, μ, _, _, w, q, fun ds μ1 q1 J G1 H1 w1 x1 good => by
    have en1 := en.kp (x1.kp w.g)
    refine ⟨fun i k σ H => k = ds.length - i ∧ i ≤ ds.length ∧ ∃ G δ μ, Wf X.K T B G μ H σ δ ∧ Kp G1 H1 G H ∧ forS t s (ds.drop i) δ μ D, ⟨_, rfl, Nat.zero_le _, G1, δ, μ1, w1, .refl G1 H1, by rw [List.drop_zero]; exact q1⟩, ?_⟩
    rintro i k σ2 H2 ⟨rfl, hi, G2, δ2, μ2, w2, k2, f2⟩
    have gd := good i G2 μ2 H2 σ2 δ2 w2 k2
    cases e : ds.drop i with
    | nil =>
      rw [e] at f2
      have hl : ds.length ≤ i := by
        have := congrArg List.length e
        rw [List.length_drop] at this
        simp at this
        omega
      exact .inl ⟨gd.2 hl, en1.nx _ _ f2 G2 H2 σ2 w2 k2⟩
    | cons d r =>
      rw [e] at f2
      obtain ⟨hd, hr⟩ := drop_get e
      obtain ⟨go, yl⟩ := gd.1 d hd
      have hil := (List.getElem?_eq_some_iff.mp hd).1
      refine .inr ⟨go, fun σ' H' => i + 1 ≤ ds.length ∧ ∃ G δ μ, Wf X.K T B G μ H' σ' δ ∧ Kp G1 H1 G H' ∧ forS t s (ds.drop (i + 1)) δ μ D, fun σ' H' n => ⟨_, by omega, rfl, n.1, n.2⟩, fun x H' y => ?_⟩
      obtain ⟨G3, w3, x3, r3⟩ := yl x H' y
      have k3 := k2.trans (x3.kp w2.g)
      refine ⟨G3, μ2, δ2, d, _, w3, r3, f2, fun δ' q' σ' w' _ => ⟨G3, δ', μ2, _, w', q', ?_⟩⟩
      rw [← hr] at *
      exact ⟨fun δ'' μ'' h G' H' σ' w' k' => ⟨hil, G', δ'', μ'', w', k3.trans k', h⟩, fun δ'' μ'' h G' H' σ' w' k' => en1.nx _ _ h G' H' σ' w' (k3.trans k'), fun δ'' μ'' h G' H' σ' w' k' => ⟨hil, G', δ'', μ'', w', k3.trans k', h⟩, en.rt, en.ex⟩, xs_of en⟩
end

/-! ### the law's head -/
theorem law_run {P : Program} {w : World} {K : PySem.W.Frag} {mg mb : Str → Option Value} {k : Nat} {fa a : Addr} {fd : FuncData} {x : Str} {sp : Sp} {z : Shared} {us : List Value} {is : List Int}
    (hK : K.In z.heap) (hns : z.heap.Ns mainGlobals mg) (hb : z.heap.Ns builtinsNs mb) (hbb : ∀ x : Str, x ≠ "__name__" → mb x = bootBuiltins x) (hlim : z.heap.NoLimit) (hg : z.gens = #[])
    (ha : z.heap.get? a = some { cls := .type "list", data := .seq us.toArray }) (hi : IntsAre us is) (hl : is.length ≤ sizeLine) (hr : RoomG k callerA)
    (F : ∀ base : Heap, K.In base → base.Ns mainGlobals mg → FnM 0 P w K mg base (L2.CX P w) k fa fd [x] sp) (hbind : ∀ (s : Shared) (u : Value), BindsTo s fd ⟨[u], []⟩ [(x, u)])
    (hsp : ∀ H : Hp, Only H → SqL K H a (is.map V.int) → sp [.ref a] H (fun v _ => v = .bl true) EF) :
    codeAny (model P w) callerA (.call (.ref fa) ⟨[.ref a], []⟩) (fun r z' => r = .ok (.ret (.bool true)) ∧ OldK z.heap z'.heap ∧ z'.os = z.os ∧ AllBare z'.gens) z := by
  have vals := vals_ints hi
  have len := hi.length
  have main : ∀ H : Hp, Only H → SqL K H a (is.map V.int) → HOk P w H z.heap → (∀ b, H b ≠ none → b = a) → (H a ≠ none → K.lookup a = none) →
      codeAny (model P w) callerA (.call (.ref fa) ⟨[.ref a], []⟩) (fun r z' => r = .ok (.ret (.bool true)) ∧ OldK z.heap z'.heap ∧ z'.os = z.os ∧ AllBare z'.gens) z := by
    intro H only sq hok one free
    have low : ∀ {b : Addr} {o : Obj}, z.heap.get? b = some o → H b = none → (hidT z.heap H).get? b = some o := fun e n => hidT_get e n
    have dicts : ∀ {b : Addr} {o : Obj} {es : Array DictEntry} {ep : Nat}, z.heap.get? b = some o → o.data = .dict es ep → H b = none := fun {b o es ep} e d => by
      cases q : H b with
      | none => rfl
      | some u =>
        have eb : b = a := one b (by rw [q]; simp)
        subst eb
        rw [ha] at e; cases e
        have d' : Data.seq us.toArray _ = Data.dict es ep := d
        cases d'
    have ns : ∀ {b : Addr} {f : Str → Option Value}, z.heap.Ns b f → (hidT z.heap H).Ns b f := fun {b f} ⟨o, es, ep, e, d, r⟩ => ⟨o, es, ep, low e (dicts e d), d, r⟩
    have inB : K.In (hidT z.heap H) := fun b o e => low (hK b o e) (by
      cases q : H b with
      | none => rfl
      | some u =>
        have eb : b = a := one b (by rw [q]; simp)
        subst eb
        rw [free (by rw [q]; simp)] at e; cases e)
    have md : Mod K mg (hidT z.heap H) := ⟨inB, ns hns, ⟨mb, ns hb, hbb⟩, let ⟨mc, h1, h2⟩ := hlim; ⟨mc, ns h1, h2⟩⟩
    have env : Env0 P w K mg (hidT z.heap H) callerA [] z H := ⟨rfl, md, fun b o e => of_hidT e, Nat.le_of_eq (hidT_size _ _), trivial, fun b hb => absurd (show b ∈ ([] : List Addr) from hb) (by simp), hok, .of_eq hg⟩
    refine codeAny_mono ((F _ inB (ns hns)).run callerA [] z H ⟨[.ref a], []⟩ [.ref a] [.ref a] _ _ (Nat.zero_le _) hr env (hbind z (.ref a)) (.cons rfl .nil) (hsp H only sq)) fun r z' back => ?_
    cases r with
    | error e => exact (cx_no back).elim
    | ok fl =>
      cases fl with
      | next => exact False.elim back
      | brk => exact False.elim back
      | cont => exact False.elim back
      | ret u =>
        obtain ⟨v, H', os, bare, un, hok', r', q⟩ := back
        have q' : v = .bl true := q
        subst q'
        obtain rfl : u = Value.bool true := r'
        refine ⟨rfl, OldK.of_keep fun b o e => ?_, os, bare⟩
        cases q : H b with
        | none => exact un.keep b o e q (by intro z; exact absurd (show b ∈ ([] : List Addr) from z) (by simp)) (by simp)
        | some u =>
          rcases only b with nil | ⟨ob, xs, yes⟩
          · rw [q] at nil; cases nil
          · have after := un.frzs b ob _ yes
            obtain ⟨e1, _⟩ := hok b _ yes
            obtain ⟨e2, _⟩ := hok' b _ after
            rw [e] at e1; cases e1
            exact e2
  cases hk : K.lookup a with
  | some o =>
    have e := hK a o hk
    rw [ha] at e
    cases e
    refine main (fun _ => none) (fun _ => .inl rfl) (.inr ⟨_, us.toArray, _, hk, rfl, rfl, rfl, by rw [List.size_toArray, len]; exact hl, by simpa using vals⟩) (fun b u q => by have q' : (none : Option HO) = some u := q; cases q') (fun b q => absurd rfl q) fun q => absurd rfl q
  | none =>
    refine main (fun b => if b = a then some (.frz { cls := .type "list", data := .seq us.toArray } (.lst (is.map V.int))) else none) (fun b => ?_) (.inl (.inr ⟨{ cls := .type "list", data := .seq us.toArray }, if_pos rfl⟩)) (fun b u q => ?_) (fun b q => ?_) fun _ => hk
    · by_cases eb : b = a
      · exact .inr ⟨_, _, if_pos eb⟩
      · exact .inl (if_neg eb)
    · by_cases eb : b = a
      · have q' := (if_pos eb).symm.trans q
        cases q'
        subst eb
        exact ⟨ha, by rw [List.length_map]; exact hl, us, _, vals, ha⟩
      · have q' := (if_neg eb).symm.trans q
        cases q'
    · by_cases eb : b = a
      · exact eb
      · exact absurd (if_neg eb) q
theorem walk_data {l : PySem.W.OpenLaw} {n k : Nat} {q : Program} {loose : List Str} {XP : (Str → Option Value) → Heap → Prop} {YP : World → Heap → Prop} {d : DefRec} {K : Params → PySem.W.Frag} {x : Str} {g : FSem}
    (hn : l.most = some n) (hn2 : n ≤ sizeLine) (hdf : d.params.defaults = []) (hr : RoomG k callerA) (hY : ∀ (w : World) (h : Heap), YP w h → (K w.params).In h)
    (F : ∀ (w : World) (mg : Str → Option Value) (fa : Addr) (h : Heap), (K w.params).In h → h.Ns mainGlobals mg → mg d.name = some (.ref fa) →
      ∃ (fd : FuncData) (T : Tab), (∀ (s : Shared) (u : Value), BindsTo s fd ⟨[u], []⟩ [(x, u)]) ∧ ∀ base : Heap, (K w.params).In base → base.Ns mainGlobals mg → FnM 0 l.prog w (K w.params) mg base (L2.CX l.prog w) k fa fd [x] (spD (K w.params) T 1 g))
    (hsp : ∀ ns : List Int, ns.length ≤ n → g [.scr ns] [] (fun r _ => r = .v (.bl true)) xNo) : PySem.W.WalkO q loose XP YP l.row.toRowW d [] (fun f vs => PySem.call f vs) := by
  refine Att.attach_call hn hdf fun w s₀ s₁ mg mb fa o pm cd doc a vs ns G Y ho hd hcd hmg hobj hints hlen hg => ?_
  have KX := hY w _ Y
  obtain ⟨fd, T, hb, hF⟩ := F w mg fa _ KX G.T.g hmg
  refine law_run KX G.T.g G.T.b G.T.builtins G.T.nolimit hg hobj hints (Nat.le_trans hlen hn2) hr hF hb fun H hO hS => ?_
  have key : ∀ G : Gh, G.io = [] → WfG (K w.params) T G [] H → Rep (K w.params) T G H (.scr ns) (.ref a) → spD (K w.params) T 1 g [.ref a] H (fun v _ => v = .bl true) EF := fun G _ wf r =>
    ⟨G, [], [.scr ns], _, _, rfl, wf, .one r, hsp ns hlen, fun r μ' h v G' H' _ _ ok _ => by subst h; simpa only [ErOk, Rep] using ok, fun e μ' h => h.elim⟩
  have wf : ∀ F0 : Addr → Prop, (∀ a, F0 a → ∃ o, H a = some o) → WfG (K w.params) T ⟨F0, []⟩ [] H := fun F0 h => ⟨h, rfl, List.nodup_nil, fun _ h => absurd h (List.not_mem_nil), fun n a c e => absurd e (by simp)⟩
  rcases hS with (h | ⟨ob, h⟩) | h
  · rcases hO a with z | ⟨o, xs, z⟩
    · rw [z] at h; cases h
    · rw [z] at h; cases h
  · exact key ⟨fun b => b = a, []⟩ rfl (wf _ fun b hb => ⟨.frz ob (.lst (ns.map V.int)), by rw [hb]; exact h⟩) (by simp only [Rep]; exact ⟨a, rfl, .inl ⟨rfl, ob, h⟩⟩)
  · exact key ⟨fun _ => False, []⟩ rfl (wf _ fun b hb => hb.elim) (by simp only [Rep]; exact ⟨a, rfl, .inr h⟩)
end L3

namespace L3
open PySem PySem.Spec L2
open PyProof.Rows hiding St
set_option autoImplicit false
section
variable {m : Nat} {X : Cx} {T : Tab} {B : Bs} {W : WX} {tg a b c e o : Expr} {es : List Expr} {pos : Pos} {te to : TE}

/-! ### x = e, laid down at once -/
def sSetV (i : Nat) (g : Sem') : SSem := fun δ μ D => g δ μ (fun r μ1 => D.nx (δ.set i (some (.v r.d))) μ1) fun e μ1 => D.ex e δ μ1
theorem setV_core {i : Nat} {g : Sem'} {Q : Ends} {σ : St} {H : Hp} (q : tS X.K T B W (sSetV i g) Q σ H) : tAsg (tD X.K T B W g) (gName i) Q σ H := by
  obtain ⟨G, δ, μ, D, w, q, en⟩ := q
  exact ⟨G, δ, μ, _, _, w, q, fun r μ' hr v G' H' w' x' ok => en.nx _ _ hr G' H' _ (w'.setV ok) (x'.kp w.g), xs_of en⟩
theorem ds_setV (i : Nat) {x : Str} {p' : Pos} {g : Sem'} (hN : X.N.Nodup) (hi : X.N[i]? = some x) (hx : Loc X.env.scope x) (h : DV m X T B W e g) (hs : swapsWith e (some (.Name x p')) pos.line X.env = pure false := by rfl)
    (hf : X.fn x = true ∨ X.env.scope.names.lookup x = some .local := by first | exact .inl rfl | exact .inr rfl | assumption) : DS m X T B W (.Assign [.Name x p'] e pos) (sSetV i g) :=
  QS.weak (qs_set hN hi hx h hs hf) fun Q σ H q => setV_core q

/-! ### -e -/
def eNeg (g : Sem') : Sem' := fun δ μ k x => g δ μ (fun r μ1 => match r.d with
  | .int i => k (.v (.int (-i))) μ1
  | _ => False) x
theorem de_neg {g : Sem'} (h : DV m X T B W e g) : DE m X T B W (.UnaryOp .USub e pos) (eNeg g) := QE.weak (qe_un un_neg h) fun σ H Q ⟨G, δ, μ, k, xx, w, q, hk, hx⟩ => ⟨G, δ, μ, _, xx, w, q, fun r μ1 q1 v G1 H1 w1 x1 ok => by
  split at q1
  · rename_i i hd
    rw [hd] at ok
    simp only [Rep] at ok
    exact ⟨i, ok, hk _ _ q1 _ G1 H1 w1 x1 (by simp only [ErOk, Rep]) .v⟩
  · exact q1.elim, hx⟩

/-! ### whatever is walked: a text, a list, a tuple -/
def iAnyT (K : PySem.W.Frag) (te : TE) : TI := fun σ H R => te σ H fun x H1 => (∃ y, x = .str y ∧ R (Its y) H1) ∨ (∃ a, x = .ref a ∧ (∃ xs, SqL K H1 a xs) ∧ R (Itl K a) H1) ∨ ∃ a, x = .ref a ∧ (∃ xs, SqT K H1 a xs) ∧ R (Itt K a) H1
theorem qi_any (h : QE m X e te) : QI m X tg e (iAnyT X.K te) := ⟨fun pins z σ H R hz I q => thm hz (h.run pins z σ H _ hz I q) fun v z1 _ ⟨x, H1, I1, r1, q1⟩ => by
  rcases q1 with ⟨y, ey, q1⟩ | ⟨a, ea, ⟨xs, hx⟩, q1⟩ | ⟨a, ea, ⟨xs, hx⟩, q1⟩
  · subst ey
    obtain ⟨u, eu⟩ := r1
    subst eu
    exact it_str I1 q1
  · subst ea
    cases r1
    exact it_list I1 hx q1
  · subst ea
    cases r1
    exact it_tup I1 hx q1⟩
theorem good_tup {K : PySem.W.Frag} {G : Gh} {H : Hp} {a : Addr} {vs : List V} {ds : List D} (hq : ∀ G' H', Kp G H G' H' → SqT K H' a vs) (r : RepL K T G H ds vs) : GoodIt K T B (Itt K a) G H ds := fun i G' μ' H' σ' δ' w kk => by
  have hq := hq G' H' kk
  refine ⟨fun d hd => ?_, fun hi => ⟨vs, hq, by rw [r.length]; exact hi⟩⟩
  obtain ⟨v, e1, r1⟩ := r.get hd
  refine ⟨⟨vs, v, hq, e1⟩, fun x H'' y => ?_⟩
  obtain ⟨rfl, y⟩ := y
  have := y vs hq
  rw [e1] at this; cases this
  exact ⟨G', w, w.same, Rep.kp kk _ _ r1⟩
theorem good_str {K : PySem.W.Frag} {G : Gh} {H : Hp} {s : List Nat} (h1 : s.length ≤ sizeLine) (h2 : ∀ c ∈ s, c < 0x110000) : GoodIt K T B (Its (strOf s)) G H (chars s) := fun i G' μ' H' σ' δ' w' kk => by
  refine ⟨fun d hd => ?_, fun hi => ?_⟩
  · simp only [chars, List.getElem?_map, Option.map_eq_some_iff] at hd
    obtain ⟨c, hc, rfl⟩ := hd
    refine ⟨by show i < (strOf s).cps.size; simp only [strOf, List.size_toArray]; exact (List.getElem?_eq_some_iff.mp hc).1, fun x H'' y => ?_⟩
    obtain ⟨rfl, c', hc', rfl⟩ := y
    have e : c' = c := by
      simp only [strOf, List.getElem?_toArray] at hc'
      rw [hc] at hc'; exact (Option.some.inj hc').symm
    subst e
    refine ⟨G', w', w'.same, ?_⟩
    simp only [Rep]
    exact ⟨rfl, by rw [sizeLine_eq]; simp, fun c'' hm => by simp at hm; subst hm; exact h2 _ (List.mem_of_getElem? hc)⟩
  · show (strOf s).cps.size ≤ i
    simpa [strOf, chars] using hi
def walked : D → Option (List D)
  | .str s => some (chars s)
  | .lst ds => some ds
  | .tup ds => some ds
  | .scr ns => some (ns.map .int)
  | _ => none
def iAny (g : Sem') : SemI := fun δ μ k x => g δ μ (fun r μ1 => match walked r.d with
  | some l => k l μ1
  | none => False) x
theorem di_any {g : Sem'} (h : DV m X T B W e g) : DI m X T B W tg e (iAny g) := QI.weak (qi_any h) fun σ H R ⟨G, δ, μ, k, xx, w, q, hk, hx⟩ => ⟨G, δ, μ, _, xx, w, q, fun r μ1 q1 v G1 H1 w1 x1 ok => by
  split at q1
  · rename_i l hl
    revert hl ok
    generalize r.d = d
    intro ok hl
    cases d <;> simp only [walked, Option.some.injEq, reduceCtorEq] at hl
    case str s =>
      subst hl
      simp only [Rep] at ok
      obtain ⟨rfl, h1, h2⟩ := ok
      exact .inl ⟨_, rfl, hk _ _ q1 _ G1 H1 w1 x1 (good_str h1 h2)⟩
    case tup ds =>
      subst hl
      simp only [Rep] at ok
      obtain ⟨a, vs, rfl, h1, h2⟩ := ok
      have hq : ∀ G' H', Kp G1 H1 G' H' → SqT X.K H' a vs := fun G' H' kk => by
        rcases h1 with ⟨f, h1⟩ | h1
        · exact .of (kk.keep a _ f h1)
        · exact .inr h1
      exact .inr (.inr ⟨a, rfl, ⟨vs, hq _ _ (.refl G1 H1)⟩, hk _ _ q1 _ G1 H1 w1 x1 (good_tup hq h2)⟩)
    case lst ds =>
      subst hl
      simp only [Rep] at ok
      obtain ⟨a, vs, rfl, f, h1, h2⟩ := ok
      exact .inr (.inl ⟨a, rfl, ⟨vs, .of h1⟩, hk _ _ q1 _ G1 H1 w1 x1 (good_list f (.inl h1) h2)⟩)
    case scr ns =>
      subst hl
      simp only [Rep] at ok
      obtain ⟨a, rfl, h1⟩ := ok
      rcases h1 with ⟨f, oo, h1⟩ | h1
      · exact .inr (.inl ⟨a, rfl, ⟨_, .inl (.inr ⟨oo, h1⟩)⟩, hk _ _ q1 _ G1 H1 w1 x1 (good_list f (.inr ⟨oo, h1⟩) (.ints ns))⟩)
      · exact .inr (.inl ⟨a, rfl, ⟨_, .inr h1⟩, hk _ _ q1 _ G1 H1 w1 x1 (good_any (fun _ _ _ => .inr h1) (.ints ns))⟩)
  · exact q1.elim, hx⟩

/-! ### a, b, c = e1, e2, e3 -/
theorem qs_par3 {i j l : Nat} {x y z : Str} {ta : TA} {px py pz pt : Pos} {kt k2 pt2} (hc : X.calm = true) (hN : X.N.Nodup) (hi : X.N[i]? = some x) (hj : X.N[j]? = some y) (hl : X.N[l]? = some z) (hij : i ≠ j) (hil : i ≠ l) (hjl : j ≠ l)
    (hx : X.env.scope.names.lookup x = some .local) (hy : X.env.scope.names.lookup y = some .local) (hz : X.env.scope.names.lookup z = some .local) (ha : QA m X [a, b, c] ta)
    (hw : swappedStores [.Tuple [.Name x px, .Name y py, .Name z pz] kt pt] (.Tuple [a, b, c] k2 pt2) X.env = pure (some [x, y, z]))
    (hs : swapsWithSole [.Tuple [.Name x px, .Name y py, .Name z pz] kt pt] (.Tuple [a, b, c] k2 pt2) pos.line X.env = pure false := by rfl) :
    QS m X (.Assign [.Tuple [.Name x px, .Name y py, .Name z pz] kt pt] (.Tuple [a, b, c] k2 pt2) pos) (tPar3 i j l ta) := by
  refine ⟨fun pins w0 σ H D h0 I q => ?_⟩
  rw [exec_Assign_arm]
  refine wpAny_bind (wpAny_standAt ?_)
  rw [hs]
  refine wpAny_bind (wpAny_pure ?_)
  rw [if_neg Bool.false_ne_true]
  refine wpAny_bind (Tuple_ (thm h0 (ha.run _ pins w0 σ H _ h0 I q) fun us w1 _ ⟨vs, H1, I1, r1, q1⟩ => ?_))
  obtain ⟨v1, v2, v3, e1, q1⟩ := q1
  subst e1
  obtain ⟨u1, u2, u3, rfl, ra, rb, rc⟩ : ∃ u1 u2 u3, us = [u1, u2, u3] ∧ RelV v1 u1 ∧ RelV v2 u2 ∧ RelV v3 u3 := by
    cases r1 with
    | cons k1 t1 =>
      cases t1 with
      | cons k2 t2 =>
        cases t2 with
        | cons k3 t3 =>
          cases t3
          exact ⟨_, _, _, rfl, k1, k2, k3⟩
  refine wpAny_newObj_type ?_ (by show 3 ≤ sizeLine; rw [sizeLine_eq]; decide)
  have I2 : Inv X pins σ H1 { w1 with heap := w1.heap.push { cls := .type "tuple", data := .seq [u1, u2, u3].toArray } } := I1.kept (t' := w1.toks) fun b ob w => Heap.get?_push_of_some _ w
  rw [hw]
  refine wpAny_bind (wpAny_pure ?_)
  show wpAny (model X.prog X.w) X.A (do rule "assign.swapped-stores"; let l3 ← unpackItems (.ref w1.heap.objs.size) 3 none; assignInOrder [fun v => bindName X.env z v, fun v => bindName X.env y v, fun v => bindName X.env x v] l3.reverse; pure Flow.next) _ _ _
  refine wpAny_bind (wpAny_rule (wpAny_bind (unpackItems_tuple (items := #[u1, u2, u3]) (I.ok.hd hc) (IsTup.new w1.heap _) fun g' hg' => ?_)))
  have I3 := I2.kept (h' := g') (t' := w1.toks) fun b ob w => hg' b ob (Nat.ne_of_lt (Heap.lt_size w)) w
  show wpAny _ _ (assignInOrder [fun v => bindName X.env z v, fun v => bindName X.env y v, fun v => bindName X.env x v] [u3, u2, u1] >>= fun _ => pure Flow.next) _ _ _
  refine wpAny_bind (assignInOrder_cons (wpAny_bindName (store_ok I3 hN hl (.inl hz) rc (fun w2 I4 => ?_) (.inr hz))))
  refine assignInOrder_cons (wpAny_bindName (store_ok I4 hN hj (.inl hy) rb (fun w3 I5 => ?_) (.inr hy)))
  refine assignInOrder_cons (wpAny_bindName (store_ok I5 hN hi (.inl hx) ra (fun w4 I6 => assignInOrder_nil (wpAny_pure ?_)) (.inr hx)))
  rw [List.set_comm _ _ (Ne.symm hjl), List.set_comm _ _ (Ne.symm hil), List.set_comm _ _ (Ne.symm hij)] at I6
  exact ⟨_, H1, I6, q1⟩
def sPar3 (i j l : Nat) (g h u : Sem') : SSem := fun δ μ D => g δ μ (fun r μ1 => h δ μ1 (fun s μ2 => u δ μ2 (fun t μ3 => D.nx (((δ.set i (some r)).set j (some s)).set l (some t)) μ3) fun e μ3 => D.ex e δ μ3) fun e μ2 => D.ex e δ μ2) fun e μ1 => D.ex e δ μ1
theorem ds_par3 {i j l : Nat} {x y z : Str} {g h u : Sem'} {px py pz pt : Pos} {kt k2 pt2} (hc : X.calm = true) (hN : X.N.Nodup) (hi : X.N[i]? = some x) (hj : X.N[j]? = some y) (hl : X.N[l]? = some z) (hij : i ≠ j) (hil : i ≠ l) (hjl : j ≠ l)
    (hx : X.env.scope.names.lookup x = some .local) (hy : X.env.scope.names.lookup y = some .local) (hz : X.env.scope.names.lookup z = some .local) (ha : DE m X T B W a g) (hb : DE m X T B W b h) (hd : DE m X T B W c u)
    (hw : swappedStores [.Tuple [.Name x px, .Name y py, .Name z pz] kt pt] (.Tuple [a, b, c] k2 pt2) X.env = pure (some [x, y, z])) (hs : swapsWithSole [.Tuple [.Name x px, .Name y py, .Name z pz] kt pt] (.Tuple [a, b, c] k2 pt2) pos.line X.env = pure false := by rfl)
    (h1 : starEach [a, b, c] X.env = (false, eval a X.env) :: starEach [b, c] X.env := by rfl) (h2 : starEach [b, c] X.env = (false, eval b X.env) :: starEach [c] X.env := by rfl) (h3 : starEach [c] X.env = (false, eval c X.env) :: starEach [] X.env := by rfl) :
    DS m X T B W (.Assign [.Tuple [.Name x px, .Name y py, .Name z pz] kt pt] (.Tuple [a, b, c] k2 pt2) pos) (sPar3 i j l g h u) :=
  QS.weak (qs_par3 hc hN hi hj hl hij hil hjl hx hy hz (qa_cons ha (qa_cons hb (qa_cons hd qa_nil h3) h2) h1) hw hs) fun Q σ H ⟨G, δ, μ, D, w, q, en⟩ =>
    ⟨G, δ, μ, _, _, w, q, fun r μ1 q1 v1 G1 H1 w1 x1 ok1 n1 => ⟨G1, δ, μ1, _, _, w1, q1, fun s μ2 q2 v2 G2 H2 w2 x2 ok2 n2 => ⟨G2, δ, μ2, _, _, w2, q2, fun t μ3 q3 v3 G3 H3 w3 x3 ok3 n3 => ⟨v1, v2, v3, rfl, by
      have x23 := x2.trans x3
      have a1 := w.set (i := i) w1 ok1 n1
      have a2 := w.set (i := i) w2 (ok1.ext w1.g x2) n1
      have a3 := w.set (i := i) w3 (ok1.ext w1.g x23) n1
      have b2 := a1.set (i := j) a2 ok2 n2
      have b3 := a1.set (i := j) a3 (ok2.ext w2.g x3) n2
      exact en.nx _ _ q3 G3 H3 _ (b2.set (i := l) b3 ok3 n3) ((x1.trans x23).kp w.g)⟩, xs_of en⟩, xs_of en⟩, xs_of en⟩
end
end L3

namespace L3
open PySem PySem.Spec L2
open PyProof.Rows hiding St
set_option autoImplicit false
/-! ### plain laws: loops by induction, the rest of the loop opaque -/
theorem lcS_ind {t : SemG} {tt : SemT} {g : Sem'} {δ : Env'} {K : List D → Mu → Prop} (R : List D → List D → Mu → Prop) (h0 : ∀ acc μ, R [] acc μ → K acc μ)
    (h1 : ∀ d ds acc μ (next : List D → Mu → Prop), R (d :: ds) acc μ → (∀ acc' μ', R ds acc' μ' → next acc' μ') →
      t d δ fun δ1 => tt δ1 μ (fun c μ1 => if c = true then g δ1 μ1 (fun r μ2 => acc.length < sizeLine ∧ next (acc ++ [r.d]) μ2) (fun _ _ => False) else next acc μ1) fun _ _ => False) :
    ∀ ds acc μ, R ds acc μ → lcS t tt g ds δ μ acc K
  | [], acc, μ, r => h0 acc μ r
  | d :: ds, acc, μ, r => h1 d ds acc μ (fun a m => lcS t tt g ds δ m a K) r fun acc' μ' r' => lcS_ind R h0 h1 ds acc' μ' r'
theorem forS_ind {t : SemG} {s : SSem} {E : En} (R : List D → Env' → Mu → Prop) (h0 : ∀ δ μ, R [] δ μ → E.nx δ μ)
    (h1 : ∀ d ds δ μ (next : Env' → Mu → Prop), R (d :: ds) δ μ → (∀ δ' μ', R ds δ' μ' → next δ' μ') → t d δ fun δ1 => s δ1 μ { E with nx := next, ct := next, bk := E.nx }) :
    ∀ ds δ μ, R ds δ μ → forS t s ds δ μ E
  | [], δ, μ, r => h0 δ μ r
  | d :: ds, δ, μ, r => h1 d ds δ μ (fun a m => forS t s ds a m E) r fun δ' μ' r' => forS_ind R h0 h1 ds δ' μ' r'
theorem whileN_ind {t : SemT} {s : SSem} {E : En} (R : Nat → Env' → Mu → Prop)
    (h1 : ∀ n δ μ (next : Env' → Mu → Prop), R n δ μ → (∀ n' δ' μ', n' < n → R n' δ' μ' → next δ' μ') → t δ μ (fun c μ1 => if c = true then s δ μ1 { E with nx := next, ct := next, bk := E.nx } else E.nx δ μ1) fun e μ1 => E.ex e δ μ1) :
    ∀ (N n : Nat) (δ : Env') (μ : Mu), n ≤ N → R n δ μ → whileN t s (N + 1) δ μ E
  | 0, n, δ, μ, hn, r => h1 n δ μ (fun a m => whileN t s 0 a m E) r fun n' δ' μ' hl _ => by omega
  | N + 1, n, δ, μ, hn, r => h1 n δ μ (fun a m => whileN t s (N + 1) a m E) r fun n' δ' μ' hl r' => whileN_ind R h1 N n' δ' μ' (by omega) r'
theorem while_ind {t : SemT} {s : SSem} {E : En} (R : Nat → Env' → Mu → Prop) (n : Nat) {δ : Env'} {μ : Mu} (r : R n δ μ)
    (h1 : ∀ n δ μ (next : Env' → Mu → Prop), R n δ μ → (∀ n' δ' μ', n' < n → R n' δ' μ' → next δ' μ') → t δ μ (fun c μ1 => if c = true then s δ μ1 { E with nx := next, ct := next, bk := E.nx } else E.nx δ μ1) fun e μ1 => E.ex e δ μ1) :
    sWhile t s δ μ E := ⟨n + 1, whileN_ind R h1 n n δ μ (Nat.le_refl _) r⟩
end L3
namespace L3
/-- a statement, what follows opaque -/
theorem seq_step {s t : SSem} {δ : Env'} {μ : Mu} {E : En} (h : ∀ next : Env' → Mu → Prop, (∀ δ' μ', t δ' μ' E → next δ' μ') → s δ μ { E with nx := next }) : sSeq s t δ μ E := h _ fun _ _ x => x
/-- .. in an expression: what is done with the value, opaque -/
theorem val_step {g : Sem'} {δ : Env'} {μ : Mu} {k : KR} {x : KX} (h : ∀ next : KR, (∀ r μ', k r μ' → next r μ') → g δ μ next x) : g δ μ k x := h _ fun _ _ y => y
theorem app_step {f : FSem} {ds : List D} {μ : Mu} {k : KR} {x : KX} (h : ∀ next : KR, (∀ r μ', k r μ' → next r μ') → f ds μ next x) : f ds μ k x := h _ fun _ _ y => y
end L3

namespace L3
open PySem PySem.Spec L2
open PyProof.Rows hiding St
set_option autoImplicit false
/-! ### how long a shown text may be -/
def sumT (ts : List Str) : Nat := (ts.map fun t => t.length + 2).sum
theorem sumT_cons (t : Str) (ts : List Str) : sumT (t :: ts) = t.length + 2 + sumT ts := rfl
theorem textFrom_le : ∀ (ts : List Str) (k : Nat) (acc : Str), (textFrom k acc ts).length ≤ acc.length + sumT ts
  | [], _, _ => Nat.le_refl _
  | t :: ts, k, acc => by
    have h := textFrom_le ts (k + 1) (acc ++ (if k > 0 then ", " else "" : String) ++ t)
    have e1 : (((if k > 0 then ", " else "" : String) : Str)).length ≤ 2 := by split <;> decide
    rw [strLen_append, strLen_append] at h
    rw [sumT_cons]
    show (textFrom (k + 1) (acc ++ (if k > 0 then ", " else "" : String) ++ t) ts).length ≤ _
    omega
theorem listText_le (ts : List Str) : (listText ts).length ≤ 2 + sumT ts := by
  unfold listText
  have h := textFrom_le ts 0 ("[" : Str)
  rw [strLen_append]
  have e1 : (("[" : String) : Str).length = 1 := rfl
  have e2 : (("]" : String) : Str).length = 1 := rfl
  rw [e1] at h
  rw [e2]
  omega
theorem join_le : ∀ ts : List Str, (Str.join ", " ts).length ≤ sumT ts
  | [] => Nat.zero_le _
  | [t] => by show t.length ≤ t.length + 2 + 0; omega
  | t :: u :: ts => by
    have h := join_le (u :: ts)
    show (t ++ ", " ++ Str.join ", " (u :: ts)).length ≤ _
    rw [strLen_append, strLen_append, sumT_cons]
    have e : ((", " : String) : Str).length = 2 := rfl
    rw [e]; omega
theorem tupleText_le (ts : List Str) : (tupleText ts).length ≤ 3 + sumT ts := by
  unfold tupleText
  rw [strLen_append, strLen_append]
  have h := join_le ts
  have e1 : (("(" : String) : Str).length = 1 := rfl
  have e2 : (((if ts.length == 1 then ",)" else ")" : String) : Str)).length ≤ 2 := by split <;> decide
  rw [e1]; omega
mutual
def D.wt : D → Nat
  | .non => 4
  | .bl _ => 5
  | .int i => (Str.ofString (toString i)).length
  | .str s => 10 * s.length + 2
  | .tup ds => 3 + wtL ds
  | .lst ds => 2 + wtL ds
  | _ => 0
def wtL : List D → Nat
  | [] => 0
  | d :: ds => D.wt d + 2 + wtL ds
end
mutual
/-- its texts' signs are no wide ones -/
def D.nar : D → Bool
  | .str s => s.all fun c => decide (c < 16 ^ 8)
  | .tup ds | .lst ds => narL ds
  | _ => true
def narL : List D → Bool
  | [] => true
  | d :: ds => D.nar d && narL ds
end
mutual
theorem shown_le : ∀ (d : D) (p : PyData), d.py = some p → d.nar = true → p.shown.length ≤ d.wt
  | .non, p, h, _ => by cases h; simp only [PyData.shown, D.wt]; decide
  | .bl b, p, h, _ => by cases h; simp only [PyData.shown, D.wt]; cases b <;> decide
  | .int i, p, h, _ => by cases h; simp only [PyData.shown, D.wt]; exact Nat.le_refl _
  | .str s, p, h, n => by
    cases h; simp only [PyData.shown, D.wt]
    have := StrLaws.reprText_len (strOf s) (fun c hc => by
      simp only [D.nar, List.all_eq_true, decide_eq_true_eq] at n
      exact n c (by simpa [strOf] using hc))
    rw [strOf_length] at this
    exact this
  | .tup ds, p, h, n => by
    simp only [D.py, Option.map_eq_some_iff] at h
    obtain ⟨ps, e, rfl⟩ := h
    simp only [PyData.shown, D.wt]
    have h1 := shownL_le ds ps e (by simpa only [D.nar] using n)
    have h2 := tupleText_le (PyData.shownAll ps)
    omega
  | .lst ds, p, h, n => by
    simp only [D.py, Option.map_eq_some_iff] at h
    obtain ⟨ps, e, rfl⟩ := h
    simp only [PyData.shown, D.wt]
    have h1 := shownL_le ds ps e (by simpa only [D.nar] using n)
    have h2 := listText_le (PyData.shownAll ps)
    omega
  | .scr _, _, h, _ => by simp [D.py] at h
  | .dct _ _, _, h, _ => by simp [D.py] at h
  | .obj _ _, _, h, _ => by simp [D.py] at h
  | .loc _, _, h, _ => by simp [D.py] at h
  | .cst _, _, h, _ => by simp [D.py] at h
theorem shownL_le : ∀ (ds : List D) (ps : List PyData), pyL ds = some ps → narL ds = true → sumT (PyData.shownAll ps) ≤ wtL ds
  | [], ps, h, _ => by cases h; simp only [PyData.shownAll, wtL]; exact Nat.le_refl _
  | d :: ds, ps, h, n => by
    simp only [pyL, Option.bind_eq_some_iff, Option.map_eq_some_iff] at h
    obtain ⟨p, e1, ps', e2, rfl⟩ := h
    simp only [narL, Bool.and_eq_true] at n
    have h1 := shown_le d p e1 n.1
    have h2 := shownL_le ds ps' e2 n.2
    simp only [PyData.shownAll, wtL, sumT_cons]
    omega
end
mutual
def D.shw : D → Bool
  | .int i => decide (i.natAbs.log2 < 1920)
  | .tup ds | .lst ds => shwL ds
  | _ => true
def shwL : List D → Bool
  | [] => true
  | d :: ds => D.shw d && shwL ds
end
mutual
theorem shw_of : ∀ (d : D) (p : PyData), d.py = some p → d.shw = true → p.showable = true
  | .non, p, h, _ => by cases h; simp only [PyData.showable]
  | .bl b, p, h, _ => by cases h; simp only [PyData.showable]
  | .int i, p, h, n => by cases h; simpa only [PyData.showable, D.shw] using n
  | .str s, p, h, _ => by cases h; simp only [PyData.showable]
  | .tup ds, p, h, n => by
    simp only [D.py, Option.map_eq_some_iff] at h
    obtain ⟨ps, e, rfl⟩ := h
    simp only [PyData.showable]
    exact shwL_of ds ps e (by simpa only [D.shw] using n)
  | .lst ds, p, h, n => by
    simp only [D.py, Option.map_eq_some_iff] at h
    obtain ⟨ps, e, rfl⟩ := h
    simp only [PyData.showable]
    exact shwL_of ds ps e (by simpa only [D.shw] using n)
  | .scr _, _, h, _ => by simp [D.py] at h
  | .dct _ _, _, h, _ => by simp [D.py] at h
  | .obj _ _, _, h, _ => by simp [D.py] at h
  | .loc _, _, h, _ => by simp [D.py] at h
  | .cst _, _, h, _ => by simp [D.py] at h
theorem shwL_of : ∀ (ds : List D) (ps : List PyData), pyL ds = some ps → shwL ds = true → PyData.showableAll ps = true
  | [], ps, h, _ => by cases h; simp only [PyData.showableAll]
  | d :: ds, ps, h, n => by
    simp only [pyL, Option.bind_eq_some_iff, Option.map_eq_some_iff] at h
    obtain ⟨p, e1, ps', e2, rfl⟩ := h
    simp only [shwL, Bool.and_eq_true] at n
    simp only [PyData.showableAll, shw_of d p e1 n.1, shwL_of ds ps' e2 n.2, Bool.and_self]
end
theorem rok_of {μ : Mu} {d : D} (h1 : isSeqD (vw μ d) = true) (h2 : (vw μ d).cmp = true) (h3 : (vw μ d).shw = true) (h4 : (vw μ d).dep ≤ 60) (h5 : (vw μ d).nar = true) (h6 : (vw μ d).wt ≤ sizeLine) : ∃ p, ROk μ d p := by
  obtain ⟨p, e, q⟩ := py_of _ h2
  exact ⟨p, h1, e, shw_of _ p e h3, by rw [q]; exact h4, Nat.le_trans (shown_le _ p e h5) h6⟩
theorem int_wt {n : Nat} (h : n < 10 ^ 9) : (D.int n).wt ≤ 10 := by
  simp only [D.wt]
  have := int_text_length_le10 (a := (n : Int)) (k := 9) (by decide) (by simpa using h)
  have e : (Str.ofString (toString (n : Int))).length = (toString (n : Int)).length := PySem.ofString_length _
  omega
theorem int_shw {n : Nat} (h : n < 2 ^ 64) : (D.int n).shw = true := by
  simp only [D.shw, decide_eq_true_eq, Int.natAbs_natCast]
  by_cases h0 : n = 0
  · subst h0; decide
  · exact Nat.lt_trans ((Nat.log2_lt h0).mpr h) (by decide)
end L3

namespace L3
open PySem PySem.Spec L2
open PyProof.Rows hiding St
set_option autoImplicit false

def allB (bs : List Bool) : Bool := bs.all id
def anyB (bs : List Bool) : Bool := bs.any id
theorem hu128 {k : Nat} {A : Around} (r : RoomG k A) : A.units + 128 < cLine := by have := r.un; omega
theorem key_str {X : Cx} {x : Str} {s : List Nat} {j : Nat} {pos : Pos} (h : x = strOf s) : PE X (.Constant (.str x) j pos) (tC (kV (DK.key (.inr s)))) := by subst h; exact pe_str
def blkB (N : List Str) (sc names : List (Str × NameKind)) (own : List (Str × Nat)) : Bool :=
  (names.all fun y => names.lookup y.1 == some y.2) && (own.all fun p => N[p.2]? == some p.1) && (names.all fun y => !(y.2 == .free) || (sc.lookup y.1 == some .cell) || (sc.lookup y.1 == some .free)) && (names.all fun y => !(y.2 == .local || y.2 == .cell) || (own.map (·.1)).contains y.1 || !N.contains y.1)
theorem blk_of {N : List Str} {sc scope : Scope} {own : List (Str × Nat)} (k : scope.kind = .function) (h : blkB N sc.names scope.names own = true) : BlkOk N sc scope own := by
  unfold blkB at h
  simp only [Bool.and_eq_true, List.all_eq_true] at h
  obtain ⟨⟨⟨h1, h2⟩, h3⟩, h4⟩ := h
  refine ⟨k, fun y hy => by simpa using h1 y hy, fun p hp => by simpa using h2 p hp, fun y hy e => ?_, fun y hy e => ?_⟩
  · have := h3 y hy
    simp only [e, Bool.or_eq_true, beq_iff_eq, Bool.not_eq_true'] at this
    rcases this with (h | h) | h
    · exact absurd h (by decide)
    · exact .inl h
    · exact .inr h
  · have := h4 y hy
    simp only [Bool.or_eq_true, Bool.not_eq_true', List.contains_iff_mem] at this
    rcases this with (h | h) | h
    · rcases e with e | e <;> rw [e] at h <;> exact absurd h (by decide)
    · exact .inl h
    · exact .inr (by simpa using h)
theorem one_cls {K : PySem.W.Frag} {T : Tab} {i : Nat} (h : ClsF K T i) : ∀ c ∈ [i], ClsF K T c := fun c hc => by
  have e : c = i := by simpa using hc
  subst e; exact h

/-! ### the text by places -/
def top (i : Nat) : Stmt := PySem.Challenge.pw_thinnedrow_k01_pattern_texts.main.body.getD i (.Pass ⟨0, 0, 0, 0⟩)
abbrev st_L_begun : Stmt := top 24
abbrev st_Pattern_len : Stmt := inClass (top 22) 13
abbrev st_L_mixed : Stmt := top 25
abbrev st_L_take : Stmt := top 26
abbrev st_L_pick : Stmt := top 27
abbrev st_L_word : Stmt := top 28
abbrev st_L_ribbon : Stmt := top 29
abbrev st_L_bent : Stmt := top 32
abbrev st_L_drawn : Stmt := top 33
abbrev st_is_text : Stmt := top 8
abbrev st_steps_of : Stmt := top 10
abbrev st_tail_of : Stmt := top 9
abbrev st_places : Stmt := top 13
abbrev st_gaps : Stmt := top 14
abbrev st_root : Stmt := top 12
abbrev st_is_periodic : Stmt := top 15
abbrev st_period_of : Stmt := top 16
abbrev st_normal_text : Stmt := top 17
abbrev st_Pattern_init : Stmt := inClass (top 22) 1
abbrev st_L_made : Stmt := top 34
abbrev st_L_is_pattern : Stmt := top 31
abbrev st_L_parsed : Stmt := top 30
abbrev st_Pattern_text : Stmt := inClass (top 22) 2
abbrev st_Pattern_steps : Stmt := inClass (top 22) 3
abbrev st_Pattern_tail : Stmt := inClass (top 22) 4
abbrev st_law : Stmt := top 35
abbrev N_L_begun : List Str := ["_law_script", "_law_great", "_law_cell"]
abbrev P_L_begun : List Str := ["_law_script"]
abbrev N_Pattern_len : List Str := ["self"]
abbrev P_Pattern_len : List Str := ["self"]
abbrev N_L_mixed : List Str := ["_law_state", "_law_turn", "_law_found", "_law_prime", "_law_blend", "_law_cell"]
abbrev P_L_mixed : List Str := ["_law_state"]
abbrev N_L_take : List Str := ["_law_state", "_law_bound", "_law_found"]
abbrev P_L_take : List Str := ["_law_state", "_law_bound"]
abbrev N_L_pick : List Str := ["_law_state", "_law_some"]
abbrev P_L_pick : List Str := ["_law_state", "_law_some"]
abbrev N_L_word : List Str := ["_law_state", "_law_most", "_law_word_here", "_law_turn"]
abbrev P_L_word : List Str := ["_law_state", "_law_most"]
abbrev N_L_ribbon : List Str := ["_law_state", "_law_most", "_law_many", "_law_way", "_law_share", "_law_found", "_law_turn"]
abbrev P_L_ribbon : List Str := ["_law_state", "_law_most"]
abbrev N_L_bent : List Str := ["_law_state", "_law_ribbon_here", "_law_at", "_law_way", "_law_sign"]
abbrev P_L_bent : List Str := ["_law_state", "_law_ribbon_here"]
abbrev N_L_drawn : List Str := ["_law_state", "_law_way", "_law_ribbon_here"]
abbrev P_L_drawn : List Str := ["_law_state"]
abbrev N_is_text : List Str := ["value", "sign"]
abbrev P_is_text : List Str := ["value"]
abbrev N_steps_of : List Str := ["text", "found", "colors", "sign"]
abbrev P_steps_of : List Str := ["text"]
abbrev N_tail_of : List Str := ["text"]
abbrev P_tail_of : List Str := ["text"]
abbrev N_places : List Str := ["steps", "at", "colors", "kept"]
abbrev P_places : List Str := ["steps"]
abbrev N_gaps : List Str := ["steps", "found", "word", "colors", "kept"]
abbrev P_gaps : List Str := ["steps"]
abbrev N_root : List Str := ["word", "size", "factor", "less"]
abbrev P_root : List Str := ["word"]
abbrev N_is_periodic : List Str := ["spots", "ring", "size", "period", "part", "spot"]
abbrev P_is_periodic : List Str := ["spots", "ring", "size", "period"]
abbrev N_period_of : List Str := ["spots", "ring", "size", "period", "factor"]
abbrev P_period_of : List Str := ["spots", "ring", "size"]
abbrev N_normal_text : List Str := ["steps", "tail", "spots", "words", "last", "period", "word_at", "at"]
abbrev P_normal_text : List Str := ["steps", "tail"]
abbrev N_Pattern_init : List Str := ["self", "text"]
abbrev P_Pattern_init : List Str := ["self", "text"]
abbrev N_L_made : List Str := ["_law_thing", "_law_by_name", "_law_found"]
abbrev P_L_made : List Str := ["_law_thing", "_law_by_name"]
abbrev N_L_is_pattern : List Str := ["_law_thing", "_law_signs", "_law_sign"]
abbrev P_L_is_pattern : List Str := ["_law_thing"]
abbrev N_L_parsed : List Str := ["_law_ribbon_here", "_law_found", "_law_word_here", "_law_sign"]
abbrev P_L_parsed : List Str := ["_law_ribbon_here"]
abbrev N_Pattern_text : List Str := ["self"]
abbrev P_Pattern_text : List Str := ["self"]
abbrev N_Pattern_steps : List Str := ["self"]
abbrev P_Pattern_steps : List Str := ["self"]
abbrev N_Pattern_tail : List Str := ["self"]
abbrev P_Pattern_tail : List Str := ["self"]
abbrev N_law : List Str := ["_law_script", "_law_state", "_law_turn", "_law_thing", "_law_found", "_law_due", "_law_parts", "_law_last", "_law_told"]
abbrev P_law : List Str := ["_law_script"]
def FN : Nat → List Str := fun c => match c with
  | 3 => ["given", "parts", "end", "standard"]
  | _ => []
def TB (C1 : Addr) (C3 : Addr) : Tab := ⟨fun c => match c with
  | 1 => C1
  | 3 => C3
  | _ => 0, FN⟩
def SUB_1 : Nat → Bool := fun c => c == 1
/-! ### what each def computes, by data -/
def s_L_begun : SSem := (sSeq (sSet 1 (eLc (iAny (eName 0)) (gN 2) (tB (eOp opGe (eName 2) (eOp opPow (eC (.int 10)) (eC (.int 18))))) (eOp opSub (eName 2) (eOp opPow (eC (.int 10)) (eC (.int 18)))) [2])) (sCell 1 (sRet (eDct [(.inr [103, 114, 101, 97, 116], (eName 1)), (.inr [99, 101, 108, 108, 115], (eFn cList (aCons (eName 0) aNil))), (.inr [108, 101, 102, 116], (eC (.int 0))), (.inr [116, 117, 114, 110], (eC (.int 0)))]))))
def f_L_begun : FSem := fnS 1 3 s_L_begun
def s_Pattern_len : SSem := (sRet (eFn cLen (aCons (eFld FN [3] "parts" (eName 0)) aNil)))
def f_Pattern_len : FSem := fnS 1 1 s_Pattern_len
def s_L_mixed : SSem := (sSeq (sSetV 1 (eOp opAdd (eGet (eName 0) (eC (.str [116, 117, 114, 110]))) (eC (.int 1)))) (sSeq (sPut (eName 0) (eC (.str [116, 117, 114, 110])) (eName 1)) (sSeq (sSetV 2 (eC (.int 0))) (sSeq (sFor (iAny (eLst (aCons (eC (.int 2147483629)) (aCons (eC (.int 2147483587)) (aCons (eC (.int 2147483579)) (aCons (eC (.int 2147483563)) (aCons (eC (.int 2147483549)) aNil))))))) (gN 3) (sSeq (sSetV 4 (eOp opAdd (eOp opMul' (eC (.int 90023)) (eName 1)) (eOp opDiv (eName 3) (eC (.int 17))))) (sSeq (sFor (iAny (eGet (eName 0) (eC (.str [99, 101, 108, 108, 115])))) (gN 5) (sSetV 4 (eOp opMod (eOp opAdd (eOp opMul' (eName 4) (eC (.int 48271))) (eName 5)) (eName 3)))) (sSetV 2 (eOp opAdd (eOp opMul' (eName 2) (eC (.int 2147483647))) (eOp opMod (eOp opPow (eName 4) (eC (.int 5))) (eName 3))))))) (sRet (eName 2))))))
def f_L_mixed : FSem := fnS 1 6 s_L_mixed
def s_L_take : SSem := (sSeq (sIf (tAnd' (tB (eOp opEq (eGet (eName 0) (eC (.str [108, 101, 102, 116]))) (eC (.int 0)))) (tB (eOp opNe (eGet (eName 0) (eC (.str [103, 114, 101, 97, 116]))) (eLst aNil)))) (sPut (eName 0) (eC (.str [108, 101, 102, 116])) (ePop0 (eGet (eName 0) (eC (.str [103, 114, 101, 97, 116]))) (eC (.int 0)))) (sIf (tB (eOp opEq (eGet (eName 0) (eC (.str [108, 101, 102, 116]))) (eC (.int 0)))) (sPut (eName 0) (eC (.str [108, 101, 102, 116])) (eCall f_L_mixed (aCons (eName 0) aNil))) sNext)) (sSeq (sSetV 2 (eOp opMod (eGet (eName 0) (eC (.str [108, 101, 102, 116]))) (eName 1))) (sSeq (sPut (eName 0) (eC (.str [108, 101, 102, 116])) (eOp opDiv (eGet (eName 0) (eC (.str [108, 101, 102, 116]))) (eName 1))) (sRet (eName 2)))))
def f_L_take : FSem := fnS 2 3 s_L_take
def s_L_pick : SSem := (sRet (eGet (eName 1) (eCall f_L_take (aCons (eName 0) (aCons (eFn cLen (aCons (eName 1) aNil)) aNil)))))
def f_L_pick : FSem := fnS 2 2 s_L_pick
def s_L_word : SSem := (sSeq (sSetV 2 (eJoin (eC (.str [])) (eLc (iR1 (aCons (eCall f_L_take (aCons (eName 0) (aCons (eOp opAdd (eName 1) (eC (.int 1))) aNil))) aNil)) (gN 3) tYes' (eCall f_L_pick (aCons (eName 0) (aCons (eC (.str [97, 97, 97, 98, 98, 122])) aNil))) [3]))) (sRet (eIf (tB (eOp opGt (eCall f_L_take (aCons (eName 0) (aCons (eC (.int 12)) aNil))) (eC (.int 0)))) (eName 2) (eOp opAdd (eName 2) (eCall f_L_pick (aCons (eName 0) (aCons (eC (.str [99, 100, 101, 102, 103, 104, 105, 106, 107, 108, 109, 110, 111, 112, 113, 114, 115, 116, 117, 118, 119, 120, 121])) aNil)))))))
def f_L_word : FSem := fnS 2 4 s_L_word
def s_L_ribbon : SSem := (sSeq (sPar3 2 3 4 (eOp opAdd (eC (.int 1)) (eCall f_L_take (aCons (eName 0) (aCons (eName 1) aNil)))) (eCall f_L_take (aCons (eName 0) (aCons (eC (.int 5)) aNil))) (eOp opAdd (eC (.int 1)) (eCall f_L_take (aCons (eName 0) (aCons (eC (.int 4)) aNil))))) (sSeq (sSetV 5 (eC (.str []))) (sSeq (sFor (iR1 (aCons (eName 2) aNil)) (gN 6) (sSeq (sIf (tAnd' (tB (eOp opEq (eCall f_L_take (aCons (eName 0) (aCons (eName 4) aNil))) (eC (.int 0)))) (tB (eOp opGt (eName 3) (eC (.int 0))))) (sSetV 5 (eOp opAdd (eName 5) (eCall f_L_word (aCons (eName 0) (aCons (eC (.int 2)) aNil))))) sNext) (sSetV 5 (eOp opAdd (eName 5) (eGet (eLst (aCons (eC (.str [46])) (aCons (eC (.str [45])) aNil))) (eFn cInt1 (aCons (eOp opLt (eCall f_L_take (aCons (eName 0) (aCons (eC (.int 4)) aNil))) (eGet (eLst (aCons (eC (.int 2)) (aCons (eC (.int 2)) (aCons (eC (.int 1)) (aCons (eC (.int 3)) (aCons (eC (.int 4)) aNil)))))) (eName 3))) aNil))))))) (sRet (eIf (tB (eOp opEq (eCall f_L_take (aCons (eName 0) (aCons (eC (.int 3)) aNil))) (eC (.int 0)))) (eOp opAdd (eName 5) (eCall f_L_word (aCons (eName 0) (aCons (eC (.int 2)) aNil)))) (eName 5))))))
def f_L_ribbon : FSem := fnS 2 7 s_L_ribbon
def s_L_bent : SSem := (sSeq (sPar 2 3 (eCall f_L_take (aCons (eName 0) (aCons (eOp opAdd (eFn cLen (aCons (eName 1) aNil)) (eC (.int 1))) aNil))) (eCall f_L_take (aCons (eName 0) (aCons (eC (.int 3)) aNil)))) (sSeq (sSetV 4 (eCall f_L_pick (aCons (eName 0) (aCons (eLst (aCons (eC (.str [97])) (aCons (eC (.str [122])) (aCons (eC (.str [46])) (aCons (eC (.str [45])) (aCons (eC (.str [65])) (aCons (eC (.str [49])) (aCons (eC (.str [32])) (aCons (eC (.str [95])) (aCons (eC (.str [43])) (aCons (eC (.str [10])) (aCons (eC (.str [])) aNil)))))))))))) aNil)))) (sRet (eOp opAdd (eOp opAdd (eSl (eName 1) oNone (oSome (eName 2))) (eGet (eLst (aCons (eC (.str [])) (aCons (eName 4) (aCons (eName 4) aNil)))) (eName 3))) (eSl (eName 1) (oSome (eOp opAdd (eName 2) (eFn cInt1 (aCons (eOp opNe (eName 3) (eC (.int 1))) aNil)))) oNone)))))
def f_L_bent : FSem := fnS 2 5 s_L_bent
def s_L_drawn : SSem := (sSeq (sPar 1 2 (eCall f_L_take (aCons (eName 0) (aCons (eC (.int 9)) aNil))) (eCall f_L_ribbon (aCons (eName 0) (aCons (eC (.int 12)) aNil)))) (sSeq (sIf (tB (eOp opEq (eName 1) (eC (.int 0)))) (sRet (eCall f_L_pick (aCons (eName 0) (aCons (eLst (aCons (eC .non) (aCons (eC (.int 5)) (aCons (eC (.bl true)) (aCons (eLst aNil) (aCons (eTup aNil) (aCons (eC (.dct [] [])) (aCons (eLst (aCons (eC (.str [46])) aNil)) (aCons (eTup (aCons (eC (.str [46])) aNil)) (aCons (eLst (aCons (eC (.str [97])) (aCons (eC (.str [46])) aNil))) (aCons (eC (.str [])) (aCons (eC (.str [97, 98])) aNil)))))))))))) aNil)))) sNext) (sSeq (sIf (tB (eOp opEq (eName 1) (eC (.int 1)))) (sRet (eSl (eOp opMul' (eCall f_L_pick (aCons (eName 0) (aCons (eLst (aCons (eC (.str [97])) (aCons (eC (.str [46])) (aCons (eC (.str [97, 98, 46, 45])) (aCons (eC (.str [46, 45])) (aCons (eC (.str [45, 122])) aNil)))))) aNil))) (eC (.int 402))) oNone (oSome (eOp opAdd (eC (.int 398)) (eCall f_L_take (aCons (eName 0) (aCons (eC (.int 6)) aNil))))))) sNext) (sSeq (sIf (tB (eOp opLt (eName 1) (eC (.int 5)))) (sRet (eCall f_L_bent (aCons (eName 0) (aCons (eName 2) aNil)))) sNext) (sRet (eIf (tB (eOp opEq (eName 1) (eC (.int 5)))) (eCall f_L_bent (aCons (eName 0) (aCons (eCall f_L_bent (aCons (eName 0) (aCons (eName 2) aNil))) aNil))) (eName 2)))))))
def f_L_drawn : FSem := fnS 1 3 s_L_drawn
def s_is_text : SSem := (sSeq (sIf (tOr' (tNot' (tTru (eFn cIsi (aCons (eName 0) (aCons (eC (.cst (.ty "str"))) aNil))))) (tNot' (tB (eCh opLe opLe (eC (.int 1)) (eFn cLen (aCons (eName 0) aNil)) (eC (.int 400)))))) (sRet (eC (.bl false))) sNext) (sRet (eAnd (eOr (eOp opIn (eC (.str [46])) (eName 0)) (eOp opIn (eC (.str [45])) (eName 0))) (eFn (cBools allB) (aCons (eLc (iAny (eName 0)) (gN 1) tYes' (eOr (eOp opIn (eName 1) (eC (.str [97, 98, 99, 100, 101, 102, 103, 104, 105, 106, 107, 108, 109, 110, 111, 112, 113, 114, 115, 116, 117, 118, 119, 120, 121, 122]))) (eOp opIn (eName 1) (eC (.str [46, 45])))) [1]) aNil)))))
def f_is_text : FSem := fnS 1 2 s_is_text
def s_steps_of : SSem := (sSeq (sSet 1 (eLst aNil)) (sSeq (sSetV 2 (eC (.str []))) (sSeq (sFor (iAny (eName 0)) (gN 3) (sIf (tB (eOp opIn (eName 3) (eC (.str [46, 45])))) (sSeq (sApp 1 (eTup (aCons (eName 2) (aCons (eOp opEq (eName 3) (eC (.str [46]))) aNil)))) (sSetV 2 (eC (.str [])))) (sSetV 2 (eOp opAdd (eName 2) (eName 3))))) (sRetO 1))))
def f_steps_of : FSem := fnS 1 4 s_steps_of
def s_tail_of : SSem := (sRet (eGet (eSplit (eRepl (eName 0) 45 [46]) (eC (.str [46]))) (eNeg (eC (.int 1)))))
def f_tail_of : FSem := fnS 1 1 s_tail_of
def s_places : SSem := (sRet (eLc (iEn (aCons (eName 0) aNil)) (gTup' 2 (gCons' (gN 1) (gCons' (gTup' 2 (gCons' (gN 2) (gCons' (gN 3) gNil'))) gNil'))) (tTru (eName 3)) (eName 1) [1, 2, 3]))
def f_places : FSem := fnS 1 4 s_places
def s_gaps : SSem := (sSeq (sSet 1 (eLst aNil)) (sSeq (sSetV 2 (eC (.str []))) (sSeq (sFor (iAny (eName 0)) (gTup' 2 (gCons' (gN 3) (gCons' (gN 4) gNil'))) (sSeq (sSetV 2 (eOp opAdd (eName 2) (eName 3))) (sIf (tTru (eName 4)) (sSeq (sApp 1 (eName 2)) (sSetV 2 (eC (.str [])))) sNext))) (sFrz 1 (sRet (eLst (aStar (eName 1) (aCons (eName 2) aNil))))))))
def f_gaps : FSem := fnS 1 5 s_gaps
def s_root : SSem := (sSeq (sPar 1 2 (eFn cLen (aCons (eName 0) aNil)) (eC (.int 2))) (sSeq (sWhile (tB (eOp opLe (eName 2) (eName 1))) (sSeq (sSetV 3 (eOp opDiv (eName 1) (eName 2))) (sIf (tAnd' (tB (eOp opEq (eOp opMod (eName 1) (eName 2)) (eC (.int 0)))) (tB (eOp opEq (eSl (eName 0) (oSome (eName 3)) oNone) (eSl (eName 0) oNone (oSome (eOp opSub (eFn cLen (aCons (eName 0) aNil)) (eName 3))))))) (sSetV 1 (eName 3)) (sSetV 2 (eOp opAdd (eName 2) (eC (.int 1))))))) (sRet (eSl (eName 0) oNone (oSome (eName 1))))))
def f_root : FSem := fnS 1 4 s_root
def s_is_periodic : SSem := (sSeq (sIf (tB (eOp opNe (eOp opMod (eOp opMul' (eFn cLen (aCons (eName 0) aNil)) (eName 3)) (eName 2)) (eC (.int 0)))) (sRet (eC (.bl false))) sNext) (sSeq (sSetV 4 (eOp opDiv (eOp opMul' (eFn cLen (aCons (eName 0) aNil)) (eName 3)) (eName 2))) (sSeq (sIf (tOr' (tB (eOp opEq (eName 4) (eC (.int 0)))) (tB (eOp opNe (eLc (iAny (eSl (eName 0) oNone (oSome (eOp opSub (eFn cLen (aCons (eName 0) aNil)) (eName 4))))) (gN 5) tYes' (eOp opAdd (eName 5) (eName 3)) [5]) (eSl (eName 0) (oSome (eName 4)) oNone)))) (sRet (eC (.bl false))) sNext) (sRet (eOp opEq (eOp opAdd (eSl (eName 1) (oSome (eName 4)) oNone) (eSl (eName 1) oNone (oSome (eName 4)))) (eName 1))))))
def f_is_periodic : FSem := fnS 4 6 s_is_periodic
def s_period_of : SSem := (sSeq (sPar 3 4 (eName 2) (eC (.int 2))) (sSeq (sWhile (tB (eOp opLe (eName 4) (eName 3))) (sIf (tAnd' (tB (eOp opEq (eOp opMod (eName 3) (eName 4)) (eC (.int 0)))) (tTru (eCall f_is_periodic (aCons (eName 0) (aCons (eName 1) (aCons (eName 2) (aCons (eOp opDiv (eName 3) (eName 4)) aNil))))))) (sSetV 3 (eOp opDiv (eName 3) (eName 4))) (sSetV 4 (eOp opAdd (eName 4) (eC (.int 1)))))) (sRet (eName 3))))
def f_period_of : FSem := fnS 3 5 s_period_of
def s_normal_text : SSem := (sSeq (sPar 2 3 (eCall f_places (aCons (eName 0) aNil)) (eCall f_gaps (aCons (eName 0) aNil))) (sFrz 3 (sFrz 2 (sSeq (sSetV 4 (eOp opAdd (eGet (eName 3) (eNeg (eC (.int 1)))) (eName 1))) (sSeq (sIf (tB (eOp opEq (eName 2) (eLst aNil))) (sRet (eOp opAdd (eC (.str [45])) (eCall f_root (aCons (eName 4) aNil)))) sNext) (sSeq (sSetV 5 (eCall f_period_of (aCons (eName 2) (aCons (eLst (aCons (eOp opAdd (eName 4) (eGet (eName 3) (eC (.int 0)))) (aStar (eSl (eName 3) (oSome (eC (.int 1))) (oSome (eNeg (eC (.int 1))))) aNil))) (aCons (eFn cLen (aCons (eName 0) aNil)) aNil))))) (sSeq (sSetV 6 (eDZ (aCons (eName 2) (aCons (eName 3) aNil)))) (sRet (eOp opAdd (eJoin (eC (.str [])) (eLc (iR1 (aCons (eName 5) aNil)) (gN 7) tYes' (eIf (tB (eOp opIn (eName 7) (eName 6))) (eOp opAdd (eGet (eName 6) (eName 7)) (eC (.str [46]))) (eC (.str [45]))) [7])) (eName 4))))))))))
def f_normal_text : FSem := fnS 2 8 s_normal_text
def s_Pattern_init : SSem := (sSeq (sIf (tNot' (tTru (eCall f_is_text (aCons (eName 1) aNil)))) (sRaise 1) sNext) (sSeq (sFldO FN 0 3 "given" (eName 1)) (sSeq (sFldO FN 0 3 "parts" (eCall f_steps_of (aCons (eName 1) aNil))) (sSeq (sFldO FN 0 3 "end" (eCall f_tail_of (aCons (eName 1) aNil))) (sFldO FN 0 3 "standard" (eCall f_normal_text (aCons (eFldO FN 0 3 "parts") (aCons (eFldO FN 0 3 "end") aNil))))))))
def f_Pattern_init : ISem := inS FN 3 2 2 s_Pattern_init
def s_L_made : SSem := (sSeq (sSetV 2 (eC .non)) (sSeq (sTry [1] SUB_1 (sSetV 2 (eIf (tTru (eName 1)) (eMake 3 f_Pattern_init (aCons (eName 0) aNil)) (eMake 3 f_Pattern_init (aCons (eName 0) aNil)))) (sSetV 2 (eC .non))) (sRet (eName 2))))
def f_L_made : FSem := fnS 2 3 s_L_made
def s_L_is_pattern : SSem := (sSeq (sIf (tOr' (tNot' (tTru (eFn cIsi (aCons (eName 0) (aCons (eC (.cst (.ty "str"))) aNil))))) (tNot' (tB (eCh opLe opLe (eC (.int 1)) (eFn cLen (aCons (eName 0) aNil)) (eC (.int 400)))))) (sRet (eC (.bl false))) sNext) (sSeq (sSet 1 (eLc (iAny (eName 0)) (gN 2) (tB (eOp opIn (eName 2) (eC (.str [46, 45])))) (eName 2) [2])) (sFrz 1 (sRet (eAnd (eOp opNe (eName 1) (eLst aNil)) (eOp opEq (eLc (iAny (eName 0)) (gN 2) (tB (eOp opNotIn (eName 2) (eC (.str [97, 98, 99, 100, 101, 102, 103, 104, 105, 106, 107, 108, 109, 110, 111, 112, 113, 114, 115, 116, 117, 118, 119, 120, 121, 122, 46, 45])))) (eName 2) [2]) (eLst aNil)))))))
def f_L_is_pattern : FSem := fnS 1 3 s_L_is_pattern
def s_L_parsed : SSem := (sSeq (sPar 1 2 (eLst aNil) (eC (.str []))) (sSeq (sFor (iAny (eName 0)) (gN 3) (sIf (tB (eOp opIn (eName 3) (eC (.str [46, 45])))) (sSeq (sApp 1 (eTup (aCons (eName 2) (aCons (eOp opEq (eName 3) (eC (.str [46]))) aNil)))) (sSetV 2 (eC (.str [])))) (sSetV 2 (eOp opAdd (eName 2) (eName 3))))) (sFrz 1 (sRet (eTup (aCons (eName 1) (aCons (eName 2) aNil)))))))
def f_L_parsed : FSem := fnS 1 4 s_L_parsed
def s_Pattern_text : SSem := (sRet (eFld FN [3] "given" (eName 0)))
def f_Pattern_text : FSem := fnS 1 1 s_Pattern_text
def s_Pattern_steps : SSem := (sRet (eFn cTuple (aCons (eFld FN [3] "parts" (eName 0)) aNil)))
def f_Pattern_steps : FSem := fnS 1 1 s_Pattern_steps
def s_Pattern_tail : SSem := (sRet (eFld FN [3] "end" (eName 0)))
def f_Pattern_tail : FSem := fnS 1 1 s_Pattern_tail
def s_law : SSem := (sSeq (sSetV 1 (eCall f_L_begun (aCons (eName 0) aNil))) (sSeq (sFor (iR1 (aCons (eOp opAdd (eC (.int 8)) (eFn cMin2 (aCons (eFn (cLenO 3 f_Pattern_len) (aCons (eName 0) aNil)) (aCons (eC (.int 12)) aNil)))) aNil)) (gN 2) (sSeq (sSetV 3 (eCall f_L_drawn (aCons (eName 1) aNil))) (sSeq (sPar 4 5 (eCall f_L_made (aCons (eName 3) (aCons (eOp opEq (eOp opMod (eName 2) (eC (.int 2))) (eC (.int 1))) aNil))) (eCall f_L_is_pattern (aCons (eName 3) aNil))) (sSeq (sIf (tB (eOp opNe (eOp opNotN (eName 4) (eC .non)) (eName 5))) (sRet (eC (.bl false))) sNext) (sIf (tTru (eName 5)) (sSeq (sTgt (eCall f_L_parsed (aCons (eName 3) aNil)) (gTup' 2 (gCons' (gN 6) (gCons' (gN 7) gNil')))) (sSeq (sSetV 8 (eLst (aCons (eProp 3 f_Pattern_text (eName 4)) (aCons (eProp 3 f_Pattern_steps (eName 4)) (aCons (eProp 3 f_Pattern_tail (eName 4)) (aCons (eFn (cLenO 3 f_Pattern_len) (aCons (eName 4) aNil)) aNil)))))) (sIf (tB (eRNe (eName 8) (eLst (aCons (eName 3) (aCons (eFn cTuple (aCons (eName 6) aNil)) (aCons (eName 7) (aCons (eFn (cLenO 3 f_Pattern_len) (aCons (eName 6) aNil)) aNil))))))) (sRet (eC (.bl false))) sNext))) sNext))))) (sRet (eOp opEq (eC (.int 400)) (eC (.int 400))))))
def f_law : FSem := fnS 1 9 s_law
end L3

namespace L3
open PySem PySem.Spec L2
open PyProof.Rows hiding St
set_option autoImplicit false
abbrev EXC (K : PySem.W.Frag) (C : Addr) : Prop := PySem.W.excIn K C [.type "ValueError", .type "Exception", .type "BaseException", .type "object"] "ValueError.__new__" = true
section
theorem sc_L_begun : FnScope N_L_begun P_L_begun (defScope st_L_begun) := ⟨rfl, rfl, rfl, by decide +kernel, rfl, by decide +kernel, by decide +kernel⟩
theorem sc_Pattern_len : FnScope N_Pattern_len P_Pattern_len (defScope st_Pattern_len) := ⟨rfl, rfl, rfl, by decide +kernel, rfl, by decide +kernel, by decide +kernel⟩
theorem sc_L_mixed : FnScope N_L_mixed P_L_mixed (defScope st_L_mixed) := ⟨rfl, rfl, rfl, by decide +kernel, rfl, by decide +kernel, by decide +kernel⟩
theorem sc_L_take : FnScope N_L_take P_L_take (defScope st_L_take) := ⟨rfl, rfl, rfl, by decide +kernel, rfl, by decide +kernel, by decide +kernel⟩
theorem sc_L_pick : FnScope N_L_pick P_L_pick (defScope st_L_pick) := ⟨rfl, rfl, rfl, by decide +kernel, rfl, by decide +kernel, by decide +kernel⟩
theorem sc_L_word : FnScope N_L_word P_L_word (defScope st_L_word) := ⟨rfl, rfl, rfl, by decide +kernel, rfl, by decide +kernel, by decide +kernel⟩
theorem sc_L_ribbon : FnScope N_L_ribbon P_L_ribbon (defScope st_L_ribbon) := ⟨rfl, rfl, rfl, by decide +kernel, rfl, by decide +kernel, by decide +kernel⟩
theorem sc_L_bent : FnScope N_L_bent P_L_bent (defScope st_L_bent) := ⟨rfl, rfl, rfl, by decide +kernel, rfl, by decide +kernel, by decide +kernel⟩
theorem sc_L_drawn : FnScope N_L_drawn P_L_drawn (defScope st_L_drawn) := ⟨rfl, rfl, rfl, by decide +kernel, rfl, by decide +kernel, by decide +kernel⟩
theorem sc_is_text : FnScope N_is_text P_is_text (defScope st_is_text) := ⟨rfl, rfl, rfl, by decide +kernel, rfl, by decide +kernel, by decide +kernel⟩
theorem sc_steps_of : FnScope N_steps_of P_steps_of (defScope st_steps_of) := ⟨rfl, rfl, rfl, by decide +kernel, rfl, by decide +kernel, by decide +kernel⟩
theorem sc_tail_of : FnScope N_tail_of P_tail_of (defScope st_tail_of) := ⟨rfl, rfl, rfl, by decide +kernel, rfl, by decide +kernel, by decide +kernel⟩
theorem sc_places : FnScope N_places P_places (defScope st_places) := ⟨rfl, rfl, rfl, by decide +kernel, rfl, by decide +kernel, by decide +kernel⟩
theorem sc_gaps : FnScope N_gaps P_gaps (defScope st_gaps) := ⟨rfl, rfl, rfl, by decide +kernel, rfl, by decide +kernel, by decide +kernel⟩
theorem sc_root : FnScope N_root P_root (defScope st_root) := ⟨rfl, rfl, rfl, by decide +kernel, rfl, by decide +kernel, by decide +kernel⟩
theorem sc_is_periodic : FnScope N_is_periodic P_is_periodic (defScope st_is_periodic) := ⟨rfl, rfl, rfl, by decide +kernel, rfl, by decide +kernel, by decide +kernel⟩
theorem sc_period_of : FnScope N_period_of P_period_of (defScope st_period_of) := ⟨rfl, rfl, rfl, by decide +kernel, rfl, by decide +kernel, by decide +kernel⟩
theorem sc_normal_text : FnScope N_normal_text P_normal_text (defScope st_normal_text) := ⟨rfl, rfl, rfl, by decide +kernel, rfl, by decide +kernel, by decide +kernel⟩
theorem sc_Pattern_init : FnScope N_Pattern_init P_Pattern_init (defScope st_Pattern_init) := ⟨rfl, rfl, rfl, by decide +kernel, rfl, by decide +kernel, by decide +kernel⟩
theorem sc_L_made : FnScope N_L_made P_L_made (defScope st_L_made) := ⟨rfl, rfl, rfl, by decide +kernel, rfl, by decide +kernel, by decide +kernel⟩
theorem sc_L_is_pattern : FnScope N_L_is_pattern P_L_is_pattern (defScope st_L_is_pattern) := ⟨rfl, rfl, rfl, by decide +kernel, rfl, by decide +kernel, by decide +kernel⟩
theorem sc_L_parsed : FnScope N_L_parsed P_L_parsed (defScope st_L_parsed) := ⟨rfl, rfl, rfl, by decide +kernel, rfl, by decide +kernel, by decide +kernel⟩
theorem sc_Pattern_text : FnScope N_Pattern_text P_Pattern_text (defScope st_Pattern_text) := ⟨rfl, rfl, rfl, by decide +kernel, rfl, by decide +kernel, by decide +kernel⟩
theorem sc_Pattern_steps : FnScope N_Pattern_steps P_Pattern_steps (defScope st_Pattern_steps) := ⟨rfl, rfl, rfl, by decide +kernel, rfl, by decide +kernel, by decide +kernel⟩
theorem sc_Pattern_tail : FnScope N_Pattern_tail P_Pattern_tail (defScope st_Pattern_tail) := ⟨rfl, rfl, rfl, by decide +kernel, rfl, by decide +kernel, by decide +kernel⟩
theorem sc_law : FnScope N_law P_law (defScope st_law) := ⟨rfl, rfl, rfl, by decide +kernel, rfl, by decide +kernel, by decide +kernel⟩
theorem lit_LETTERS : ("abcdefghijklmnopqrstuvwxyz" : Str) = strOf [97, 98, 99, 100, 101, 102, 103, 104, 105, 106, 107, 108, 109, 110, 111, 112, 113, 114, 115, 116, 117, 118, 119, 120, 121, 122] ∧ [97, 98, 99, 100, 101, 102, 103, 104, 105, 106, 107, 108, 109, 110, 111, 112, 113, 114, 115, 116, 117, 118, 119, 120, 121, 122].length ≤ 10000 ∧ ([97, 98, 99, 100, 101, 102, 103, 104, 105, 106, 107, 108, 109, 110, 111, 112, 113, 114, 115, 116, 117, 118, 119, 120, 121, 122].all fun c => decide (c < 0x110000)) = true := by decide +kernel
structure Wd (K : PySem.W.Frag) (mg : Str → Option Value) where
  C_NoPattern : Addr
  C_Pattern : Addr
  f_L_begun : Addr
  d_L_begun : FuncData
  f_Pattern_len : Addr
  d_Pattern_len : FuncData
  f_L_mixed : Addr
  d_L_mixed : FuncData
  f_L_take : Addr
  d_L_take : FuncData
  f_L_pick : Addr
  d_L_pick : FuncData
  f_L_word : Addr
  d_L_word : FuncData
  f_L_ribbon : Addr
  d_L_ribbon : FuncData
  f_L_bent : Addr
  d_L_bent : FuncData
  f_L_drawn : Addr
  d_L_drawn : FuncData
  f_is_text : Addr
  d_is_text : FuncData
  f_steps_of : Addr
  d_steps_of : FuncData
  f_tail_of : Addr
  d_tail_of : FuncData
  f_places : Addr
  d_places : FuncData
  f_gaps : Addr
  d_gaps : FuncData
  f_root : Addr
  d_root : FuncData
  f_is_periodic : Addr
  d_is_periodic : FuncData
  f_period_of : Addr
  d_period_of : FuncData
  f_normal_text : Addr
  d_normal_text : FuncData
  f_Pattern_init : Addr
  d_Pattern_init : FuncData
  f_L_made : Addr
  d_L_made : FuncData
  f_L_is_pattern : Addr
  d_L_is_pattern : FuncData
  f_L_parsed : Addr
  d_L_parsed : FuncData
  f_Pattern_text : Addr
  d_Pattern_text : FuncData
  f_Pattern_steps : Addr
  d_Pattern_steps : FuncData
  f_Pattern_tail : Addr
  d_Pattern_tail : FuncData
  f_law : Addr
  d_law : FuncData
  t_LETTERS : Tok
  t_MOST_SIGNS : Tok
  mc_Pattern : Value
  u_Pattern_MOST : Value
  a_Pattern_steps : Addr
  a_Pattern_tail : Addr
  a_Pattern_text : Addr
  F_L_begun : Fun K "_law_begun" "_law_begun" st_L_begun f_L_begun d_L_begun
  b_L_begun : Binds K d_L_begun P_L_begun []
  m_L_begun : mg "_law_begun" = some (.ref f_L_begun)
  F_Pattern_len : Fun K "__len__" "Pattern.__len__" st_Pattern_len f_Pattern_len d_Pattern_len
  b_Pattern_len : Binds K d_Pattern_len P_Pattern_len []
  l_Pattern_len : LenOf K C_Pattern f_Pattern_len
  F_L_mixed : Fun K "_law_mixed" "_law_mixed" st_L_mixed f_L_mixed d_L_mixed
  b_L_mixed : Binds K d_L_mixed P_L_mixed []
  m_L_mixed : mg "_law_mixed" = some (.ref f_L_mixed)
  F_L_take : Fun K "_law_take" "_law_take" st_L_take f_L_take d_L_take
  b_L_take : Binds K d_L_take P_L_take []
  m_L_take : mg "_law_take" = some (.ref f_L_take)
  F_L_pick : Fun K "_law_pick" "_law_pick" st_L_pick f_L_pick d_L_pick
  b_L_pick : Binds K d_L_pick P_L_pick []
  m_L_pick : mg "_law_pick" = some (.ref f_L_pick)
  F_L_word : Fun K "_law_word" "_law_word" st_L_word f_L_word d_L_word
  b_L_word : Binds K d_L_word P_L_word []
  m_L_word : mg "_law_word" = some (.ref f_L_word)
  F_L_ribbon : Fun K "_law_ribbon" "_law_ribbon" st_L_ribbon f_L_ribbon d_L_ribbon
  b_L_ribbon : Binds K d_L_ribbon P_L_ribbon []
  m_L_ribbon : mg "_law_ribbon" = some (.ref f_L_ribbon)
  F_L_bent : Fun K "_law_bent" "_law_bent" st_L_bent f_L_bent d_L_bent
  b_L_bent : Binds K d_L_bent P_L_bent []
  m_L_bent : mg "_law_bent" = some (.ref f_L_bent)
  F_L_drawn : Fun K "_law_drawn" "_law_drawn" st_L_drawn f_L_drawn d_L_drawn
  b_L_drawn : Binds K d_L_drawn P_L_drawn []
  m_L_drawn : mg "_law_drawn" = some (.ref f_L_drawn)
  F_is_text : Fun K "is_text" "is_text" st_is_text f_is_text d_is_text
  b_is_text : Binds K d_is_text P_is_text []
  m_is_text : mg "is_text" = some (.ref f_is_text)
  F_steps_of : Fun K "steps_of" "steps_of" st_steps_of f_steps_of d_steps_of
  b_steps_of : Binds K d_steps_of P_steps_of []
  m_steps_of : mg "steps_of" = some (.ref f_steps_of)
  F_tail_of : Fun K "tail_of" "tail_of" st_tail_of f_tail_of d_tail_of
  b_tail_of : Binds K d_tail_of P_tail_of []
  m_tail_of : mg "tail_of" = some (.ref f_tail_of)
  F_places : Fun K "places" "places" st_places f_places d_places
  b_places : Binds K d_places P_places []
  m_places : mg "places" = some (.ref f_places)
  F_gaps : Fun K "gaps" "gaps" st_gaps f_gaps d_gaps
  b_gaps : Binds K d_gaps P_gaps []
  m_gaps : mg "gaps" = some (.ref f_gaps)
  F_root : Fun K "root" "root" st_root f_root d_root
  b_root : Binds K d_root P_root []
  m_root : mg "root" = some (.ref f_root)
  F_is_periodic : Fun K "is_periodic" "is_periodic" st_is_periodic f_is_periodic d_is_periodic
  b_is_periodic : Binds K d_is_periodic P_is_periodic []
  m_is_periodic : mg "is_periodic" = some (.ref f_is_periodic)
  F_period_of : Fun K "period_of" "period_of" st_period_of f_period_of d_period_of
  b_period_of : Binds K d_period_of P_period_of []
  m_period_of : mg "period_of" = some (.ref f_period_of)
  F_normal_text : Fun K "normal_text" "normal_text" st_normal_text f_normal_text d_normal_text
  b_normal_text : Binds K d_normal_text P_normal_text []
  m_normal_text : mg "normal_text" = some (.ref f_normal_text)
  F_Pattern_init : Fun K "__init__" "Pattern.__init__" st_Pattern_init f_Pattern_init d_Pattern_init
  b_Pattern_init : Binds K d_Pattern_init P_Pattern_init []
  kb_Pattern_init : ∀ (s : Shared) (x : Value) (ws : List Value), K.In s.heap → ws.length + 1 = P_Pattern_init.length → BindsTo s d_Pattern_init ⟨[x], (["text"] : List Str).zip ws⟩ (P_Pattern_init.zip (x :: ws))
  F_L_made : Fun K "_law_made" "_law_made" st_L_made f_L_made d_L_made
  b_L_made : Binds K d_L_made P_L_made []
  m_L_made : mg "_law_made" = some (.ref f_L_made)
  F_L_is_pattern : Fun K "_law_is_pattern" "_law_is_pattern" st_L_is_pattern f_L_is_pattern d_L_is_pattern
  b_L_is_pattern : Binds K d_L_is_pattern P_L_is_pattern []
  m_L_is_pattern : mg "_law_is_pattern" = some (.ref f_L_is_pattern)
  F_L_parsed : Fun K "_law_parsed" "_law_parsed" st_L_parsed f_L_parsed d_L_parsed
  b_L_parsed : Binds K d_L_parsed P_L_parsed []
  m_L_parsed : mg "_law_parsed" = some (.ref f_L_parsed)
  F_Pattern_text : Fun K "text" "Pattern.text" st_Pattern_text f_Pattern_text d_Pattern_text
  b_Pattern_text : Binds K d_Pattern_text P_Pattern_text []
  p_Pattern_text : PropOf K C_Pattern "text" a_Pattern_text f_Pattern_text
  F_Pattern_steps : Fun K "steps" "Pattern.steps" st_Pattern_steps f_Pattern_steps d_Pattern_steps
  b_Pattern_steps : Binds K d_Pattern_steps P_Pattern_steps []
  p_Pattern_steps : PropOf K C_Pattern "steps" a_Pattern_steps f_Pattern_steps
  F_Pattern_tail : Fun K "tail" "Pattern.tail" st_Pattern_tail f_Pattern_tail d_Pattern_tail
  b_Pattern_tail : Binds K d_Pattern_tail P_Pattern_tail []
  p_Pattern_tail : PropOf K C_Pattern "tail" a_Pattern_tail f_Pattern_tail
  F_law : Fun K "law" "law" st_law f_law d_law
  b_law : Binds K d_law P_law []
  m_law : mg "law" = some (.ref f_law)
  n_all : mg "all" = none
  n_dict : mg "dict" = none
  n_enumerate : mg "enumerate" = none
  n_int : mg "int" = none
  n_isinstance : mg "isinstance" = none
  n_len : mg "len" = none
  n_list : mg "list" = none
  n_min : mg "min" = none
  n_range : mg "range" = none
  n_repr : mg "repr" = none
  n_str : mg "str" = none
  n_tuple : mg "tuple" = none
  n_zip : mg "zip" = none
  g_LETTERS : mg "LETTERS" = some (.str "abcdefghijklmnopqrstuvwxyz" t_LETTERS)
  g_MOST_SIGNS : mg "MOST_SIGNS" = some (.int 400 t_MOST_SIGNS)
  m_NoPattern : mg "NoPattern" = some (.ref C_NoPattern)
  m_Pattern : mg "Pattern" = some (.ref C_Pattern)
  cf_Pattern : ClsF K (TB C_NoPattern C_Pattern) 3
  k_Pattern : Mk K C_Pattern f_Pattern_init
  r_Pattern : ClX.CRead K C_Pattern mc_Pattern
  v_Pattern_MOST : ClX.CVal K C_Pattern mc_Pattern "MOST" (.int 400) u_Pattern_MOST
  x_NoPattern : EXC K C_NoPattern
  kx_NoPattern : PySem.W.keepIn K (.ref C_NoPattern) = true
  bx_NoPattern : PySem.W.subIn K (.ref C_NoPattern) (.type "BaseException") = some true
  tx_NoPattern : PySem.W.typeIn K (.ref C_NoPattern) = some (.type "type")
  s_NoPattern : ∀ j ∈ [1], PySem.W.exmOne K (.ref ((TB C_NoPattern C_Pattern).ca j)) (.ref ((TB C_NoPattern C_Pattern).ca 1)) = some (SUB_1 j)
variable {P : Program} {w : World} {K : PySem.W.Frag} {mg : Str → Option Value} {base : Heap}
def Wd.T (Z : Wd K mg) : Tab := TB Z.C_NoPattern Z.C_Pattern
theorem ok_L_begun (Z : Wd K mg) : FnM 0 P w K mg base (L2.CX P w) 2 Z.f_L_begun Z.d_L_begun P_L_begun (spD K Z.T 1 f_L_begun) := fn_ok (k := 1) (body := s_L_begun) Z.F_L_begun sc_L_begun fun cdv A outer s H E B hr tk hp =>
    (dss_cons (ds_setLc (i := 1) rfl sc_L_begun.nd rfl (by rfl) (by rfl) (di_any (de_v (de_var 0 (pv 0)))) (own := [("_law_cell", 2)]) (blk_of (N := N_L_begun) (sc := defScope st_L_begun) rfl (by decide +kernel)) rfl (fun s H C cl fp => (dg_name 2 sc_L_begun.nd rfl (by first | exact .inl rfl | exact .inr rfl) (by decide))) (fun s H C cl fp => (dps_one (dt_cmp d_ge (de_v (de_var 2 (pv 2))) (de_v (de_op d_pow (de_v de_int) (de_v de_int))) (by rfl)))) (fun s H C cl fp => (de_v (de_op d_sub (de_v (de_var 2 (pv 2))) (de_v (de_op d_pow (de_v de_int) (de_v de_int)))))))
    (dss_cell 1 (dss_one (ds_ret (de_dct (dpr_cons (j := .inr [103, 114, 101, 97, 116]) (key_str (by decide +kernel)) (de_v (de_var 1 (pv 1))) (dpr_cons (j := .inr [99, 101, 108, 108, 115]) (key_str (by decide +kernel)) (de_v (de_bt d_list (by rfl) Z.n_list (by decide +kernel) (da_cons (de_v (de_var 0 (pv 0))) da_nil))) (dpr_cons (j := .inr [108, 101, 102, 116]) (key_str (by decide +kernel)) (de_v de_int) (dpr_cons (j := .inr [116, 117, 114, 110]) (key_str (by decide +kernel)) (de_v de_int) dpr_nil)))))))))
theorem ok_Pattern_len (Z : Wd K mg) : FnM 0 P w K mg base (L2.CX P w) 2 Z.f_Pattern_len Z.d_Pattern_len P_Pattern_len (spD K Z.T 1 f_Pattern_len) := fn_ok (k := 1) (body := s_Pattern_len) Z.F_Pattern_len sc_Pattern_len fun cdv A outer s H E B hr tk hp =>
    (dss_one (ds_ret (de_bf d_len (by rfl) Z.n_len (by decide +kernel) (da_cons (de_v (de_fld (one_cls Z.cf_Pattern) (de_v (de_var 0 (pv 0))))) da_nil))))
theorem ok_L_mixed (Z : Wd K mg) : FnM 0 P w K mg base (L2.CX P w) 2 Z.f_L_mixed Z.d_L_mixed P_L_mixed (spD K Z.T 1 f_L_mixed) := fn_ok (k := 1) (body := s_L_mixed) Z.F_L_mixed sc_L_mixed fun cdv A outer s H E B hr tk hp =>
    (dss_cons (ds_setV 1 sc_L_mixed.nd rfl (by first | exact .inl rfl | exact .inr rfl) (de_v (de_op d_add (de_v (de_get (hu_of hr.toRoom) (de_v (de_var 0 (pv 0))) (de_v (de_str (by decide +kernel))))) (de_v de_int))))
    (dss_cons (ds_put (hu_of hr.toRoom) (de_v (de_var 0 (pv 0))) (de_v (de_str (by decide +kernel))) (de_v (de_var 1 (pv 1))))
    (dss_cons (ds_setV 2 sc_L_mixed.nd rfl (by first | exact .inl rfl | exact .inr rfl) (de_v de_int))
    (dss_cons (ds_for (ix := [3]) hp rfl (di_any (de_v (de_lst (da_cons (de_v de_int) (da_cons (de_v de_int) (da_cons (de_v de_int) (da_cons (de_v de_int) (da_cons (de_v de_int) da_nil)))))))) (dg_name 3 sc_L_mixed.nd rfl (by first | exact .inl rfl | exact .inr rfl) (by decide))
    (dss_cons (ds_setV 4 sc_L_mixed.nd rfl (by first | exact .inl rfl | exact .inr rfl) (de_v (de_op d_add (de_v (de_op d_mul' (de_v de_int) (de_v (de_var 1 (pv 1))))) (de_v (de_op d_div (de_v (de_var 3 (pv 3))) (de_v de_int))))))
    (dss_cons (ds_for (ix := [5]) hp rfl (di_any (de_v (de_get (hu_of hr.toRoom) (de_v (de_var 0 (pv 0))) (de_v (de_str (by decide +kernel)))))) (dg_name 5 sc_L_mixed.nd rfl (by first | exact .inl rfl | exact .inr rfl) (by decide))
    (dss_one (ds_setV 4 sc_L_mixed.nd rfl (by first | exact .inl rfl | exact .inr rfl) (de_v (de_op d_mod (de_v (de_op d_add (de_v (de_op d_mul' (de_v (de_var 4 (pv 4))) (de_v de_int))) (de_v (de_var 5 (pv 5))))) (de_v (de_var 3 (pv 3))))))))
    (dss_one (ds_setV 2 sc_L_mixed.nd rfl (by first | exact .inl rfl | exact .inr rfl) (de_v (de_op d_add (de_v (de_op d_mul' (de_v (de_var 2 (pv 2))) (de_v de_int))) (de_v (de_op d_mod (de_v (de_op d_pow (de_v (de_var 4 (pv 4))) (de_v de_int))) (de_v (de_var 3 (pv 3))))))))))))
    (dss_one (ds_ret (de_var 2 (pv 2))))))))
theorem ok_L_take (Z : Wd K mg) : FnM 0 P w K mg base (L2.CX P w) 3 Z.f_L_take Z.d_L_take P_L_take (spD K Z.T 2 f_L_take) := fn_ok (k := 2) (body := s_L_take) Z.F_L_take sc_L_take fun cdv A outer s H E B hr tk hp =>
    (dss_cons (ds_if (DW.pt (dw_and (dt_cmp (d_eq hr.units) (de_v (de_get (hu_of hr.toRoom) (de_v (de_var 0 (pv 0))) (de_v (de_str (by decide +kernel))))) (de_v de_int) (by rfl)) (dw_and1 (dt_cmp (d_ne hr.units) (de_v (de_get (hu_of hr.toRoom) (de_v (de_var 0 (pv 0))) (de_v (de_str (by decide +kernel))))) (de_v (de_lst da_nil)) (by rfl)))))
    (dss_one (ds_put (hu_of hr.toRoom) (de_v (de_var 0 (pv 0))) (de_v (de_str (by decide +kernel))) (de_v (de_pop0 (de_v (de_get (hu_of hr.toRoom) (de_v (de_var 0 (pv 0))) (de_v (de_str (by decide +kernel))))) (de_v de_int)))))
    (dss_one (ds_if (dt_cmp (d_eq hr.units) (de_v (de_get (hu_of hr.toRoom) (de_v (de_var 0 (pv 0))) (de_v (de_str (by decide +kernel))))) (de_v de_int) (by rfl))
    (dss_one (ds_put (hu_of hr.toRoom) (de_v (de_var 0 (pv 0))) (de_v (de_str (by decide +kernel))) (de_v (de_call (ok_L_mixed Z) hr (by rfl) ⟨Z.m_L_mixed, Z.F_L_mixed.kp, Z.b_L_mixed⟩ tk fnS_len (da_cons (de_v (de_var 0 (pv 0))) da_nil) (by omega) (by omega)))))
    dss_nil)))
    (dss_cons (ds_setV 2 sc_L_take.nd rfl (by first | exact .inl rfl | exact .inr rfl) (de_v (de_op d_mod (de_v (de_get (hu_of hr.toRoom) (de_v (de_var 0 (pv 0))) (de_v (de_str (by decide +kernel))))) (de_v (de_var 1 (pv 1))))))
    (dss_cons (ds_put (hu_of hr.toRoom) (de_v (de_var 0 (pv 0))) (de_v (de_str (by decide +kernel))) (de_v (de_op d_div (de_v (de_get (hu_of hr.toRoom) (de_v (de_var 0 (pv 0))) (de_v (de_str (by decide +kernel))))) (de_v (de_var 1 (pv 1))))))
    (dss_one (ds_ret (de_var 2 (pv 2)))))))
theorem ok_L_pick (Z : Wd K mg) : FnM 0 P w K mg base (L2.CX P w) 4 Z.f_L_pick Z.d_L_pick P_L_pick (spD K Z.T 2 f_L_pick) := fn_ok (k := 3) (body := s_L_pick) Z.F_L_pick sc_L_pick fun cdv A outer s H E B hr tk hp =>
    (dss_one (ds_ret (de_get (hu_of hr.toRoom) (de_v (de_var 1 (pv 1))) (de_v (de_call (ok_L_take Z) hr (by rfl) ⟨Z.m_L_take, Z.F_L_take.kp, Z.b_L_take⟩ tk fnS_len (da_cons (de_v (de_var 0 (pv 0))) (da_cons (de_v (de_bf d_len (by rfl) Z.n_len (by decide +kernel) (da_cons (de_v (de_var 1 (pv 1))) da_nil))) da_nil)) (by omega) (by omega))))))
theorem ok_L_word (Z : Wd K mg) : FnM 0 P w K mg base (L2.CX P w) 5 Z.f_L_word Z.d_L_word P_L_word (spD K Z.T 2 f_L_word) := fn_ok (k := 4) (body := s_L_word) Z.F_L_word sc_L_word fun cdv A outer s H E B hr tk hp =>
    (dss_cons (ds_setV 2 sc_L_word.nd rfl (by first | exact .inl rfl | exact .inr rfl) (de_v (de_join (de_v (de_str (by decide +kernel))) (de_v (de_lc rfl sc_L_word.nd (di_range1 (by rfl) Z.n_range (da_cons (de_v (de_call (ok_L_take Z) hr (by rfl) ⟨Z.m_L_take, Z.F_L_take.kp, Z.b_L_take⟩ tk fnS_len (da_cons (de_v (de_var 0 (pv 0))) (da_cons (de_v (de_op d_add (de_v (de_var 1 (pv 1))) (de_v de_int))) da_nil)) (by omega) (by omega))) da_nil)) (own := [("_law_turn", 3)]) (blk_of (N := N_L_word) (sc := defScope st_L_word) rfl (by decide +kernel)) rfl (fun s H C cl fp => (dg_name 3 sc_L_word.nd rfl (by first | exact .inl rfl | exact .inr rfl) (by decide))) (fun s H C cl fp => dps_nil) (fun s H C cl fp => (de_v (de_call (ok_L_pick Z) hr (by rfl) ⟨Z.m_L_pick, Z.F_L_pick.kp, Z.b_L_pick⟩  takes0  fnS_len (da_cons (de_v (de_var 0 (pv 0))) (da_cons (de_v (de_str (by decide +kernel))) da_nil)) (by omega) (by omega)))))))))
    (dss_one (ds_ret (de_if (dt_cmp d_gt (de_v (de_call (ok_L_take Z) hr (by rfl) ⟨Z.m_L_take, Z.F_L_take.kp, Z.b_L_take⟩ tk fnS_len (da_cons (de_v (de_var 0 (pv 0))) (da_cons (de_v de_int) da_nil)) (by omega) (by omega))) (de_v de_int) (by rfl)) (de_var 2 (pv 2)) (de_op d_add (de_v (de_var 2 (pv 2))) (de_v (de_call (ok_L_pick Z) hr (by rfl) ⟨Z.m_L_pick, Z.F_L_pick.kp, Z.b_L_pick⟩ tk fnS_len (da_cons (de_v (de_var 0 (pv 0))) (da_cons (de_v (de_str (by decide +kernel))) da_nil)) (by omega) (by omega))))))))
theorem ok_L_ribbon (Z : Wd K mg) : FnM 0 P w K mg base (L2.CX P w) 6 Z.f_L_ribbon Z.d_L_ribbon P_L_ribbon (spD K Z.T 2 f_L_ribbon) := fn_ok (k := 5) (body := s_L_ribbon) Z.F_L_ribbon sc_L_ribbon fun cdv A outer s H E B hr tk hp =>
    (dss_cons (ds_par3 (i := 2) (j := 3) (l := 4) rfl sc_L_ribbon.nd rfl rfl rfl (by decide) (by decide) (by decide) (by rfl) (by rfl) (by rfl) (de_op d_add (de_v de_int) (de_v (de_call (ok_L_take Z) hr (by rfl) ⟨Z.m_L_take, Z.F_L_take.kp, Z.b_L_take⟩ tk fnS_len (da_cons (de_v (de_var 0 (pv 0))) (da_cons (de_v (de_var 1 (pv 1))) da_nil)) (by omega) (by omega)))) (de_call (ok_L_take Z) hr (by rfl) ⟨Z.m_L_take, Z.F_L_take.kp, Z.b_L_take⟩ tk fnS_len (da_cons (de_v (de_var 0 (pv 0))) (da_cons (de_v de_int) da_nil)) (by omega) (by omega)) (de_op d_add (de_v de_int) (de_v (de_call (ok_L_take Z) hr (by rfl) ⟨Z.m_L_take, Z.F_L_take.kp, Z.b_L_take⟩ tk fnS_len (da_cons (de_v (de_var 0 (pv 0))) (da_cons (de_v de_int) da_nil)) (by omega) (by omega)))) (by rfl))
    (dss_cons (ds_setV 5 sc_L_ribbon.nd rfl (by first | exact .inl rfl | exact .inr rfl) (de_v (de_str (by decide +kernel))))
    (dss_cons (ds_for (ix := [6]) hp rfl (di_range1 (by rfl) Z.n_range (da_cons (de_v (de_var 2 (pv 2))) da_nil)) (dg_name 6 sc_L_ribbon.nd rfl (by first | exact .inl rfl | exact .inr rfl) (by decide))
    (dss_cons (ds_if (DW.pt (dw_and (dt_cmp (d_eq hr.units) (de_v (de_call (ok_L_take Z) hr (by rfl) ⟨Z.m_L_take, Z.F_L_take.kp, Z.b_L_take⟩ tk fnS_len (da_cons (de_v (de_var 0 (pv 0))) (da_cons (de_v (de_var 4 (pv 4))) da_nil)) (by omega) (by omega))) (de_v de_int) (by rfl)) (dw_and1 (dt_cmp d_gt (de_v (de_var 3 (pv 3))) (de_v de_int) (by rfl)))))
    (dss_one (ds_setV 5 sc_L_ribbon.nd rfl (by first | exact .inl rfl | exact .inr rfl) (de_v (de_op d_add (de_v (de_var 5 (pv 5))) (de_v (de_call (ok_L_word Z) hr (by rfl) ⟨Z.m_L_word, Z.F_L_word.kp, Z.b_L_word⟩ tk fnS_len (da_cons (de_v (de_var 0 (pv 0))) (da_cons (de_v de_int) da_nil)) (by omega) (by omega)))))))
    dss_nil)
    (dss_one (ds_setV 5 sc_L_ribbon.nd rfl (by first | exact .inl rfl | exact .inr rfl) (de_v (de_op d_add (de_v (de_var 5 (pv 5))) (de_v (de_get (hu_of hr.toRoom) (de_v (de_lst (da_cons (de_v (de_str (by decide +kernel))) (da_cons (de_v (de_str (by decide +kernel))) da_nil)))) (de_v (de_bt d_int1 (by rfl) Z.n_int (by decide +kernel) (da_cons (de_v (de_cmp d_lt (de_v (de_call (ok_L_take Z) hr (by rfl) ⟨Z.m_L_take, Z.F_L_take.kp, Z.b_L_take⟩ tk fnS_len (da_cons (de_v (de_var 0 (pv 0))) (da_cons (de_v de_int) da_nil)) (by omega) (by omega))) (de_v (de_get (hu_of hr.toRoom) (de_v (de_lst (da_cons (de_v de_int) (da_cons (de_v de_int) (da_cons (de_v de_int) (da_cons (de_v de_int) (da_cons (de_v de_int) da_nil))))))) (de_v (de_var 3 (pv 3))))) (by rfl))) da_nil)))))))))))
    (dss_one (ds_ret (de_if (dt_cmp (d_eq hr.units) (de_v (de_call (ok_L_take Z) hr (by rfl) ⟨Z.m_L_take, Z.F_L_take.kp, Z.b_L_take⟩ tk fnS_len (da_cons (de_v (de_var 0 (pv 0))) (da_cons (de_v de_int) da_nil)) (by omega) (by omega))) (de_v de_int) (by rfl)) (de_op d_add (de_v (de_var 5 (pv 5))) (de_v (de_call (ok_L_word Z) hr (by rfl) ⟨Z.m_L_word, Z.F_L_word.kp, Z.b_L_word⟩ tk fnS_len (da_cons (de_v (de_var 0 (pv 0))) (da_cons (de_v de_int) da_nil)) (by omega) (by omega)))) (de_var 5 (pv 5))))))))
theorem ok_L_bent (Z : Wd K mg) : FnM 0 P w K mg base (L2.CX P w) 5 Z.f_L_bent Z.d_L_bent P_L_bent (spD K Z.T 2 f_L_bent) := fn_ok (k := 4) (body := s_L_bent) Z.F_L_bent sc_L_bent fun cdv A outer s H E B hr tk hp =>
    (dss_cons (ds_par (i := 2) (j := 3) rfl sc_L_bent.nd rfl rfl (by decide) (by rfl) (by rfl) (de_call (ok_L_take Z) hr (by rfl) ⟨Z.m_L_take, Z.F_L_take.kp, Z.b_L_take⟩ tk fnS_len (da_cons (de_v (de_var 0 (pv 0))) (da_cons (de_v (de_op d_add (de_v (de_bf d_len (by rfl) Z.n_len (by decide +kernel) (da_cons (de_v (de_var 1 (pv 1))) da_nil))) (de_v de_int))) da_nil)) (by omega) (by omega)) (de_call (ok_L_take Z) hr (by rfl) ⟨Z.m_L_take, Z.F_L_take.kp, Z.b_L_take⟩ tk fnS_len (da_cons (de_v (de_var 0 (pv 0))) (da_cons (de_v de_int) da_nil)) (by omega) (by omega)) (by rfl))
    (dss_cons (ds_setV 4 sc_L_bent.nd rfl (by first | exact .inl rfl | exact .inr rfl) (de_v (de_call (ok_L_pick Z) hr (by rfl) ⟨Z.m_L_pick, Z.F_L_pick.kp, Z.b_L_pick⟩ tk fnS_len (da_cons (de_v (de_var 0 (pv 0))) (da_cons (de_v (de_lst (da_cons (de_v (de_str (by decide +kernel))) (da_cons (de_v (de_str (by decide +kernel))) (da_cons (de_v (de_str (by decide +kernel))) (da_cons (de_v (de_str (by decide +kernel))) (da_cons (de_v (de_str (by decide +kernel))) (da_cons (de_v (de_str (by decide +kernel))) (da_cons (de_v (de_str (by decide +kernel))) (da_cons (de_v (de_str (by decide +kernel))) (da_cons (de_v (de_str (by decide +kernel))) (da_cons (de_v (de_str (by decide +kernel))) (da_cons (de_v (de_str (by decide +kernel))) da_nil))))))))))))) da_nil)) (by omega) (by omega))))
    (dss_one (ds_ret (de_op d_add (de_v (de_op d_add (de_v (de_sl (de_v (de_var 1 (pv 1))) do_none (do_some (de_var 2 (pv 2))))) (de_v (de_get (hu_of hr.toRoom) (de_v (de_lst (da_cons (de_v (de_str (by decide +kernel))) (da_cons (de_v (de_var 4 (pv 4))) (da_cons (de_v (de_var 4 (pv 4))) da_nil))))) (de_v (de_var 3 (pv 3))))))) (de_v (de_sl (de_v (de_var 1 (pv 1))) (do_some (de_op d_add (de_v (de_var 2 (pv 2))) (de_v (de_bt d_int1 (by rfl) Z.n_int (by decide +kernel) (da_cons (de_v (de_cmp (d_ne hr.units) (de_v (de_var 3 (pv 3))) (de_v de_int) (by rfl))) da_nil))))) do_none)))))))
theorem ok_L_drawn (Z : Wd K mg) : FnM 0 P w K mg base (L2.CX P w) 7 Z.f_L_drawn Z.d_L_drawn P_L_drawn (spD K Z.T 1 f_L_drawn) := fn_ok (k := 6) (body := s_L_drawn) Z.F_L_drawn sc_L_drawn fun cdv A outer s H E B hr tk hp =>
    (dss_cons (ds_par (i := 1) (j := 2) rfl sc_L_drawn.nd rfl rfl (by decide) (by rfl) (by rfl) (de_call (ok_L_take Z) hr (by rfl) ⟨Z.m_L_take, Z.F_L_take.kp, Z.b_L_take⟩ tk fnS_len (da_cons (de_v (de_var 0 (pv 0))) (da_cons (de_v de_int) da_nil)) (by omega) (by omega)) (de_call (ok_L_ribbon Z) hr (by rfl) ⟨Z.m_L_ribbon, Z.F_L_ribbon.kp, Z.b_L_ribbon⟩ tk fnS_len (da_cons (de_v (de_var 0 (pv 0))) (da_cons (de_v de_int) da_nil)) (by omega) (by omega)) (by rfl))
    (dss_cons (ds_if (dt_cmp (d_eq hr.units) (de_v (de_var 1 (pv 1))) (de_v de_int) (by rfl))
    (dss_one (ds_ret (de_call (ok_L_pick Z) hr (by rfl) ⟨Z.m_L_pick, Z.F_L_pick.kp, Z.b_L_pick⟩ tk fnS_len (da_cons (de_v (de_var 0 (pv 0))) (da_cons (de_v (de_lst (da_cons (de_v de_non) (da_cons (de_v de_int) (da_cons (de_v de_bl) (da_cons (de_v (de_lst da_nil)) (da_cons (de_v (de_tup da_nil)) (da_cons (de_v de_dct0) (da_cons (de_v (de_lst (da_cons (de_v (de_str (by decide +kernel))) da_nil))) (da_cons (de_v (de_tup (da_cons (de_v (de_str (by decide +kernel))) da_nil))) (da_cons (de_v (de_lst (da_cons (de_v (de_str (by decide +kernel))) (da_cons (de_v (de_str (by decide +kernel))) da_nil)))) (da_cons (de_v (de_str (by decide +kernel))) (da_cons (de_v (de_str (by decide +kernel))) da_nil))))))))))))) da_nil)) (by omega) (by omega))))
    dss_nil)
    (dss_cons (ds_if (dt_cmp (d_eq hr.units) (de_v (de_var 1 (pv 1))) (de_v de_int) (by rfl))
    (dss_one (ds_ret (de_sl (de_v (de_op d_mul' (de_v (de_call (ok_L_pick Z) hr (by rfl) ⟨Z.m_L_pick, Z.F_L_pick.kp, Z.b_L_pick⟩ tk fnS_len (da_cons (de_v (de_var 0 (pv 0))) (da_cons (de_v (de_lst (da_cons (de_v (de_str (by decide +kernel))) (da_cons (de_v (de_str (by decide +kernel))) (da_cons (de_v (de_str (by decide +kernel))) (da_cons (de_v (de_str (by decide +kernel))) (da_cons (de_v (de_str (by decide +kernel))) da_nil))))))) da_nil)) (by omega) (by omega))) (de_v de_int))) do_none (do_some (de_op d_add (de_v de_int) (de_v (de_call (ok_L_take Z) hr (by rfl) ⟨Z.m_L_take, Z.F_L_take.kp, Z.b_L_take⟩ tk fnS_len (da_cons (de_v (de_var 0 (pv 0))) (da_cons (de_v de_int) da_nil)) (by omega) (by omega))))))))
    dss_nil)
    (dss_cons (ds_if (dt_cmp d_lt (de_v (de_var 1 (pv 1))) (de_v de_int) (by rfl))
    (dss_one (ds_ret (de_call (ok_L_bent Z) hr (by rfl) ⟨Z.m_L_bent, Z.F_L_bent.kp, Z.b_L_bent⟩ tk fnS_len (da_cons (de_v (de_var 0 (pv 0))) (da_cons (de_v (de_var 2 (pv 2))) da_nil)) (by omega) (by omega))))
    dss_nil)
    (dss_one (ds_ret (de_if (dt_cmp (d_eq hr.units) (de_v (de_var 1 (pv 1))) (de_v de_int) (by rfl)) (de_call (ok_L_bent Z) hr (by rfl) ⟨Z.m_L_bent, Z.F_L_bent.kp, Z.b_L_bent⟩ tk fnS_len (da_cons (de_v (de_var 0 (pv 0))) (da_cons (de_v (de_call (ok_L_bent Z) hr (by rfl) ⟨Z.m_L_bent, Z.F_L_bent.kp, Z.b_L_bent⟩ tk fnS_len (da_cons (de_v (de_var 0 (pv 0))) (da_cons (de_v (de_var 2 (pv 2))) da_nil)) (by omega) (by omega))) da_nil)) (by omega) (by omega)) (de_var 2 (pv 2)))))))))
theorem ok_is_text (Z : Wd K mg) : FnM 0 P w K mg base (L2.CX P w) 2 Z.f_is_text Z.d_is_text P_is_text (spD K Z.T 1 f_is_text) := fn_ok (k := 1) (body := s_is_text) Z.F_is_text sc_is_text fun cdv A outer s H E B hr tk hp =>
    (dss_cons (ds_if (DW.pt (dw_or (dt_not (dt_tru (de_v (de_bf d_isi (by rfl) Z.n_isinstance (by decide +kernel) (da_cons (de_v (de_var 0 (pv 0))) (da_cons (de_v (de_ty (by rfl) Z.n_str (by decide +kernel))) da_nil)))))) (dw_or1 (dt_not (dt_chain d_le d_le (de_v de_int) (de_v (de_bf d_len (by rfl) Z.n_len (by decide +kernel) (da_cons (de_v (de_var 0 (pv 0))) da_nil))) (de_v (de_gint (by rfl) Z.g_MOST_SIGNS)))))))
    (dss_one (ds_ret de_bl))
    dss_nil)
    (dss_one (ds_ret (de_and (de_v (de_or (de_v (de_cmp (d_inD (hu128 hr)) (de_v (de_str (by decide +kernel))) (de_v (de_var 0 (pv 0))) (by rfl))) (de_one (de_cmp (d_inD (hu128 hr)) (de_v (de_str (by decide +kernel))) (de_v (de_var 0 (pv 0))) (by rfl))))) (de_one (de_bf (d_bools (g := allB) (cr_all rfl)) (by rfl) Z.n_all (by decide +kernel) (da_cons (de_v (de_lc rfl sc_is_text.nd (di_any (de_v (de_var 0 (pv 0)))) (own := [("sign", 1)]) (blk_of (N := N_is_text) (sc := defScope st_is_text) rfl (by decide +kernel)) rfl (fun s H C cl fp => (dg_name 1 sc_is_text.nd rfl (by first | exact .inl rfl | exact .inr rfl) (by decide))) (fun s H C cl fp => dps_nil) (fun s H C cl fp => (de_v (de_or (de_v (de_cmp (d_inD (hu128 hr)) (de_v (de_var 1 (pv 1))) (de_v (de_gstr (by rfl) Z.g_LETTERS lit_LETTERS)) (by rfl))) (de_one (de_cmp (d_inD (hu128 hr)) (de_v (de_var 1 (pv 1))) (de_v (de_str (by decide +kernel))) (by rfl)))))))) da_nil)))))))
theorem ok_steps_of (Z : Wd K mg) : FnM 0 P w K mg base (L2.CX P w) 2 Z.f_steps_of Z.d_steps_of P_steps_of (spD K Z.T 1 f_steps_of) := fn_ok (k := 1) (body := s_steps_of) Z.F_steps_of sc_steps_of fun cdv A outer s H E B hr tk hp =>
    (dss_cons (ds_set 1 sc_steps_of.nd rfl (by first | exact .inl rfl | exact .inr rfl) (de_lst da_nil))
    (dss_cons (ds_setV 2 sc_steps_of.nd rfl (by first | exact .inl rfl | exact .inr rfl) (de_v (de_str (by decide +kernel))))
    (dss_cons (ds_for (ix := [3]) hp rfl (di_any (de_v (de_var 0 (pv 0)))) (dg_name 3 sc_steps_of.nd rfl (by first | exact .inl rfl | exact .inr rfl) (by decide))
    (dss_one (ds_if (dt_cmp (d_inD (hu128 hr)) (de_v (de_var 3 (pv 3))) (de_v (de_str (by decide +kernel))) (by rfl))
    (dss_cons (ds_app 1 (pv 1) (de_v (de_tup (da_cons (de_v (de_var 2 (pv 2))) (da_cons (de_v (de_cmp (d_eq hr.units) (de_v (de_var 3 (pv 3))) (de_v (de_str (by decide +kernel))) (by rfl))) da_nil)))))
    (dss_one (ds_setV 2 sc_steps_of.nd rfl (by first | exact .inl rfl | exact .inr rfl) (de_v (de_str (by decide +kernel))))))
    (dss_one (ds_setV 2 sc_steps_of.nd rfl (by first | exact .inl rfl | exact .inr rfl) (de_v (de_op d_add (de_v (de_var 2 (pv 2))) (de_v (de_var 3 (pv 3))))))))))
    (dss_one (ds_retO 1 (pv 1))))))
theorem ok_tail_of (Z : Wd K mg) : FnM 1 P w K mg base (L2.CX P w) 2 Z.f_tail_of Z.d_tail_of P_tail_of (spD K Z.T 1 f_tail_of) := fn_ok (k := 1) (body := s_tail_of) Z.F_tail_of sc_tail_of fun cdv A outer s H E B hr tk hp =>
    (dss_one (ds_ret (de_get (hu_of hr.toRoom) (de_v (de_split (de_v (de_repl (by omega) (de_v (de_var 0 (pv 0))) (by decide +kernel) (by decide +kernel) (by decide) (by decide))) (de_v (de_str (by decide +kernel))))) (de_v (de_neg (de_v de_int))))))
theorem ok_places (Z : Wd K mg) : FnM 0 P w K mg base (L2.CX P w) 2 Z.f_places Z.d_places P_places (spD K Z.T 1 f_places) := fn_ok (k := 1) (body := s_places) Z.F_places sc_places fun cdv A outer s H E B hr tk hp =>
    (dss_one (ds_ret (de_lc rfl sc_places.nd (QI.up (di_enum (by rfl) Z.n_enumerate (da_cons (de_v (de_var 0 (pv 0))) da_nil)) (Nat.zero_le _)) (own := [("at", 1), ("colors", 2), ("kept", 3)]) (blk_of (N := N_places) (sc := defScope st_places) rfl (by decide +kernel)) rfl (fun s H C cl fp => (dg_tup rfl (dgs_cons (dg_name 1 sc_places.nd rfl (by first | exact .inl rfl | exact .inr rfl) (by decide)) (dgs_cons (dg_tup rfl (dgs_cons (dg_name 2 sc_places.nd rfl (by first | exact .inl rfl | exact .inr rfl) (by decide)) (dgs_cons (dg_name 3 sc_places.nd rfl (by first | exact .inl rfl | exact .inr rfl) (by decide)) dgs_nil))) dgs_nil)))) (fun s H C cl fp => (dps_one (dt_tru (de_v (de_var 3 (pv 3)))))) (fun s H C cl fp => (de_v (de_var 1 (pv 1)))))))
theorem ok_gaps (Z : Wd K mg) : FnM 0 P w K mg base (L2.CX P w) 2 Z.f_gaps Z.d_gaps P_gaps (spD K Z.T 1 f_gaps) := fn_ok (k := 1) (body := s_gaps) Z.F_gaps sc_gaps fun cdv A outer s H E B hr tk hp =>
    (dss_cons (ds_set 1 sc_gaps.nd rfl (by first | exact .inl rfl | exact .inr rfl) (de_lst da_nil))
    (dss_cons (ds_setV 2 sc_gaps.nd rfl (by first | exact .inl rfl | exact .inr rfl) (de_v (de_str (by decide +kernel))))
    (dss_cons (ds_for (ix := [3, 4]) hp rfl (di_any (de_v (de_var 0 (pv 0)))) (dg_tup rfl (dgs_cons (dg_name 3 sc_gaps.nd rfl (by first | exact .inl rfl | exact .inr rfl) (by decide)) (dgs_cons (dg_name 4 sc_gaps.nd rfl (by first | exact .inl rfl | exact .inr rfl) (by decide)) dgs_nil)))
    (dss_cons (ds_setV 2 sc_gaps.nd rfl (by first | exact .inl rfl | exact .inr rfl) (de_v (de_op d_add (de_v (de_var 2 (pv 2))) (de_v (de_var 3 (pv 3))))))
    (dss_one (ds_if (dt_tru (de_v (de_var 4 (pv 4))))
    (dss_cons (ds_app 1 (pv 1) (de_v (de_var 2 (pv 2))))
    (dss_one (ds_setV 2 sc_gaps.nd rfl (by first | exact .inl rfl | exact .inr rfl) (de_v (de_str (by decide +kernel))))))
    dss_nil))))
    (dss_frz 1 (dss_one (ds_ret (de_lst (da_star (de_v (de_var 1 (pv 1))) (da_cons (de_v (de_var 2 (pv 2))) da_nil)))))))))
theorem ok_root (Z : Wd K mg) : FnM 0 P w K mg base (L2.CX P w) 2 Z.f_root Z.d_root P_root (spD K Z.T 1 f_root) := fn_ok (k := 1) (body := s_root) Z.F_root sc_root fun cdv A outer s H E B hr tk hp =>
    (dss_cons (ds_par (i := 1) (j := 2) rfl sc_root.nd rfl rfl (by decide) (by rfl) (by rfl) (de_bf d_len (by rfl) Z.n_len (by decide +kernel) (da_cons (de_v (de_var 0 (pv 0))) da_nil)) de_int (by rfl))
    (dss_cons (ds_while hp (dt_cmp d_le (de_v (de_var 2 (pv 2))) (de_v (de_var 1 (pv 1))) (by rfl))
    (dss_cons (ds_setV 3 sc_root.nd rfl (by first | exact .inl rfl | exact .inr rfl) (de_v (de_op d_div (de_v (de_var 1 (pv 1))) (de_v (de_var 2 (pv 2))))))
    (dss_one (ds_if (DW.pt (dw_and (dt_cmp (d_eq hr.units) (de_v (de_op d_mod (de_v (de_var 1 (pv 1))) (de_v (de_var 2 (pv 2))))) (de_v de_int) (by rfl)) (dw_and1 (dt_cmp (d_eq hr.units) (de_v (de_sl (de_v (de_var 0 (pv 0))) (do_some (de_var 3 (pv 3))) do_none)) (de_v (de_sl (de_v (de_var 0 (pv 0))) do_none (do_some (de_op d_sub (de_v (de_bf d_len (by rfl) Z.n_len (by decide +kernel) (da_cons (de_v (de_var 0 (pv 0))) da_nil))) (de_v (de_var 3 (pv 3))))))) (by rfl)))))
    (dss_one (ds_setV 1 sc_root.nd rfl (by first | exact .inl rfl | exact .inr rfl) (de_v (de_var 3 (pv 3)))))
    (dss_one (ds_setV 2 sc_root.nd rfl (by first | exact .inl rfl | exact .inr rfl) (de_v (de_op d_add (de_v (de_var 2 (pv 2))) (de_v de_int)))))))))
    (dss_one (ds_ret (de_sl (de_v (de_var 0 (pv 0))) do_none (do_some (de_var 1 (pv 1))))))))
theorem ok_is_periodic (Z : Wd K mg) : FnM 0 P w K mg base (L2.CX P w) 2 Z.f_is_periodic Z.d_is_periodic P_is_periodic (spD K Z.T 4 f_is_periodic) := fn_ok (k := 1) (body := s_is_periodic) Z.F_is_periodic sc_is_periodic fun cdv A outer s H E B hr tk hp =>
    (dss_cons (ds_if (dt_cmp (d_ne hr.units) (de_v (de_op d_mod (de_v (de_op d_mul' (de_v (de_bf d_len (by rfl) Z.n_len (by decide +kernel) (da_cons (de_v (de_var 0 (pv 0))) da_nil))) (de_v (de_var 3 (pv 3))))) (de_v (de_var 2 (pv 2))))) (de_v de_int) (by rfl))
    (dss_one (ds_ret de_bl))
    dss_nil)
    (dss_cons (ds_setV 4 sc_is_periodic.nd rfl (by first | exact .inl rfl | exact .inr rfl) (de_v (de_op d_div (de_v (de_op d_mul' (de_v (de_bf d_len (by rfl) Z.n_len (by decide +kernel) (da_cons (de_v (de_var 0 (pv 0))) da_nil))) (de_v (de_var 3 (pv 3))))) (de_v (de_var 2 (pv 2))))))
    (dss_cons (ds_if (DW.pt (dw_or (dt_cmp (d_eq hr.units) (de_v (de_var 4 (pv 4))) (de_v de_int) (by rfl)) (dw_or1 (dt_cmp (d_ne hr.units) (de_v (de_lc rfl sc_is_periodic.nd (di_any (de_v (de_sl (de_v (de_var 0 (pv 0))) do_none (do_some (de_op d_sub (de_v (de_bf d_len (by rfl) Z.n_len (by decide +kernel) (da_cons (de_v (de_var 0 (pv 0))) da_nil))) (de_v (de_var 4 (pv 4)))))))) (own := [("spot", 5)]) (blk_of (N := N_is_periodic) (sc := defScope st_is_periodic) rfl (by decide +kernel)) rfl (fun s H C cl fp => (dg_name 5 sc_is_periodic.nd rfl (by first | exact .inl rfl | exact .inr rfl) (by decide))) (fun s H C cl fp => dps_nil) (fun s H C cl fp => (de_v (de_op d_add (de_v (de_var 5 (pv 5))) (de_v (de_var 3 (pv 3)))))))) (de_v (de_sl (de_v (de_var 0 (pv 0))) (do_some (de_var 4 (pv 4))) do_none)) (by rfl)))))
    (dss_one (ds_ret de_bl))
    dss_nil)
    (dss_one (ds_ret (de_cmp (d_eq hr.units) (de_v (de_op d_add (de_v (de_sl (de_v (de_var 1 (pv 1))) (do_some (de_var 4 (pv 4))) do_none)) (de_v (de_sl (de_v (de_var 1 (pv 1))) do_none (do_some (de_var 4 (pv 4))))))) (de_v (de_var 1 (pv 1))) (by rfl)))))))
theorem ok_period_of (Z : Wd K mg) : FnM 0 P w K mg base (L2.CX P w) 3 Z.f_period_of Z.d_period_of P_period_of (spD K Z.T 3 f_period_of) := fn_ok (k := 2) (body := s_period_of) Z.F_period_of sc_period_of fun cdv A outer s H E B hr tk hp =>
    (dss_cons (ds_par (i := 3) (j := 4) rfl sc_period_of.nd rfl rfl (by decide) (by rfl) (by rfl) (de_var 2 (pv 2)) de_int (by rfl))
    (dss_cons (ds_while hp (dt_cmp d_le (de_v (de_var 4 (pv 4))) (de_v (de_var 3 (pv 3))) (by rfl))
    (dss_one (ds_if (DW.pt (dw_and (dt_cmp (d_eq hr.units) (de_v (de_op d_mod (de_v (de_var 3 (pv 3))) (de_v (de_var 4 (pv 4))))) (de_v de_int) (by rfl)) (dw_and1 (dt_tru (de_v (de_call (ok_is_periodic Z) hr (by rfl) ⟨Z.m_is_periodic, Z.F_is_periodic.kp, Z.b_is_periodic⟩ tk fnS_len (da_cons (de_v (de_var 0 (pv 0))) (da_cons (de_v (de_var 1 (pv 1))) (da_cons (de_v (de_var 2 (pv 2))) (da_cons (de_v (de_op d_div (de_v (de_var 3 (pv 3))) (de_v (de_var 4 (pv 4))))) da_nil)))) (by omega) (by omega)))))))
    (dss_one (ds_setV 3 sc_period_of.nd rfl (by first | exact .inl rfl | exact .inr rfl) (de_v (de_op d_div (de_v (de_var 3 (pv 3))) (de_v (de_var 4 (pv 4)))))))
    (dss_one (ds_setV 4 sc_period_of.nd rfl (by first | exact .inl rfl | exact .inr rfl) (de_v (de_op d_add (de_v (de_var 4 (pv 4))) (de_v de_int))))))))
    (dss_one (ds_ret (de_var 3 (pv 3))))))
theorem ok_normal_text (Z : Wd K mg) : FnM 0 P w K mg base (L2.CX P w) 4 Z.f_normal_text Z.d_normal_text P_normal_text (spD K Z.T 2 f_normal_text) := fn_ok (k := 3) (body := s_normal_text) Z.F_normal_text sc_normal_text fun cdv A outer s H E B hr tk hp =>
    (dss_cons (ds_par (i := 2) (j := 3) rfl sc_normal_text.nd rfl rfl (by decide) (by rfl) (by rfl) (de_call (ok_places Z) hr (by rfl) ⟨Z.m_places, Z.F_places.kp, Z.b_places⟩ tk fnS_len (da_cons (de_v (de_var 0 (pv 0))) da_nil) (by omega) (by omega)) (de_call (ok_gaps Z) hr (by rfl) ⟨Z.m_gaps, Z.F_gaps.kp, Z.b_gaps⟩ tk fnS_len (da_cons (de_v (de_var 0 (pv 0))) da_nil) (by omega) (by omega)) (by rfl))
    (dss_frz 3 (dss_frz 2 (dss_cons (ds_setV 4 sc_normal_text.nd rfl (by first | exact .inl rfl | exact .inr rfl) (de_v (de_op d_add (de_v (de_get (hu_of hr.toRoom) (de_v (de_var 3 (pv 3))) (de_v (de_neg (de_v de_int))))) (de_v (de_var 1 (pv 1))))))
    (dss_cons (ds_if (dt_cmp (d_eq hr.units) (de_v (de_var 2 (pv 2))) (de_v (de_lst da_nil)) (by rfl))
    (dss_one (ds_ret (de_op d_add (de_v (de_str (by decide +kernel))) (de_v (de_call (ok_root Z) hr (by rfl) ⟨Z.m_root, Z.F_root.kp, Z.b_root⟩ tk fnS_len (da_cons (de_v (de_var 4 (pv 4))) da_nil) (by omega) (by omega))))))
    dss_nil)
    (dss_cons (ds_setV 5 sc_normal_text.nd rfl (by first | exact .inl rfl | exact .inr rfl) (de_v (de_call (ok_period_of Z) hr (by rfl) ⟨Z.m_period_of, Z.F_period_of.kp, Z.b_period_of⟩ tk fnS_len (da_cons (de_v (de_var 2 (pv 2))) (da_cons (de_v (de_lst (da_cons (de_v (de_op d_add (de_v (de_var 4 (pv 4))) (de_v (de_get (hu_of hr.toRoom) (de_v (de_var 3 (pv 3))) (de_v de_int))))) (da_star (de_v (de_sl (de_v (de_var 3 (pv 3))) (do_some de_int) (do_some (de_neg (de_v de_int))))) da_nil)))) (da_cons (de_v (de_bf d_len (by rfl) Z.n_len (by decide +kernel) (da_cons (de_v (de_var 0 (pv 0))) da_nil))) da_nil))) (by omega) (by omega))))
    (dss_cons (ds_setV 6 sc_normal_text.nd rfl (by first | exact .inl rfl | exact .inr rfl) (de_v (de_dictzip rfl (by rfl) Z.n_zip (by rfl) Z.n_dict (by decide +kernel) (da_cons (de_v (de_var 2 (pv 2))) (da_cons (de_v (de_var 3 (pv 3))) da_nil)))))
    (dss_one (ds_ret (de_op d_add (de_v (de_join (de_v (de_str (by decide +kernel))) (de_v (de_lc rfl sc_normal_text.nd (di_range1 (by rfl) Z.n_range (da_cons (de_v (de_var 5 (pv 5))) da_nil)) (own := [("at", 7)]) (blk_of (N := N_normal_text) (sc := defScope st_normal_text) rfl (by decide +kernel)) rfl (fun s H C cl fp => (dg_name 7 sc_normal_text.nd rfl (by first | exact .inl rfl | exact .inr rfl) (by decide))) (fun s H C cl fp => dps_nil) (fun s H C cl fp => (de_v (de_if (dt_cmp (d_inD (hu128 hr)) (de_v (de_var 7 (pv 7))) (de_v (de_var 6 (pv 6))) (by rfl)) (de_op d_add (de_v (de_get (hu_of hr.toRoom) (de_v (de_var 6 (pv 6))) (de_v (de_var 7 (pv 7))))) (de_v (de_str (by decide +kernel)))) (de_str (by decide +kernel))))))))) (de_v (de_var 4 (pv 4)))))))))))))
theorem ok_Pattern_init (Z : Wd K mg) : FnM 1 P w K mg base (L2.CX P w) 5 Z.f_Pattern_init Z.d_Pattern_init P_Pattern_init (spI K Z.T 3 2 f_Pattern_init) := init_ok (k := 4) (body := s_Pattern_init) Z.F_Pattern_init sc_Pattern_init fun cdv A outer s H E B hr tk hp =>
    (dss_cons (ds_if (dt_not (dt_tru (de_v (de_call (ok_is_text Z) hr (by rfl) ⟨Z.m_is_text, Z.F_is_text.kp, Z.b_is_text⟩ tk fnS_len (da_cons (de_v (de_var 1 (pv 1))) da_nil) (by omega) (by omega)))))
    (dss_one (ds_raise 1 rfl tk (pmk_own PySem.F.excBase_ValueError Z.x_NoPattern Z.m_NoPattern Z.kx_NoPattern (raises_own Z.bx_NoPattern Z.tx_NoPattern) (by rfl))))
    dss_nil)
    (dss_cons (ds_fldO 0 3 Z.cf_Pattern (pv 0) (de_v (de_var 1 (pv 1))))
    (dss_cons (ds_fldO 0 3 Z.cf_Pattern (pv 0) (de_v (de_call (ok_steps_of Z) hr (by rfl) ⟨Z.m_steps_of, Z.F_steps_of.kp, Z.b_steps_of⟩ tk fnS_len (da_cons (de_v (de_var 1 (pv 1))) da_nil) (by omega) (by omega))))
    (dss_cons (ds_fldO 0 3 Z.cf_Pattern (pv 0) (de_v (de_call (ok_tail_of Z) hr (by rfl) ⟨Z.m_tail_of, Z.F_tail_of.kp, Z.b_tail_of⟩ tk fnS_len (da_cons (de_v (de_var 1 (pv 1))) da_nil) (by omega) (by omega))))
    (dss_one (ds_fldO 0 3 Z.cf_Pattern (pv 0) (de_v (de_call (ok_normal_text Z) hr (by rfl) ⟨Z.m_normal_text, Z.F_normal_text.kp, Z.b_normal_text⟩ tk fnS_len (da_cons (de_v (de_fldO 0 3 Z.cf_Pattern (pv 0))) (da_cons (de_v (de_fldO 0 3 Z.cf_Pattern (pv 0))) da_nil)) (by omega) (by omega)))))))))
theorem ok_L_made (Z : Wd K mg) : FnM 1 P w K mg base (L2.CX P w) 7 Z.f_L_made Z.d_L_made P_L_made (spD K Z.T 2 f_L_made) := fn_ok (k := 6) (body := s_L_made) Z.F_L_made sc_L_made fun cdv A outer s H E B hr tk hp =>
    (dss_cons (ds_setV 2 sc_L_made.nd rfl (by first | exact .inl rfl | exact .inr rfl) (de_v de_non))
    (dss_cons (ds_try 1 [1] SUB_1 rfl rfl ⟨by rfl, by decide, .inl Z.m_NoPattern⟩ tk Z.s_NoPattern
    (fun B V0 pq xe tk1 hp1 => (dss_one (ds_setV 2 sc_L_made.nd rfl (by first | exact .inl rfl | exact .inr rfl) (de_v (de_if (dt_tru (de_v (de_var 1 (pv 1)))) (de_makeK 3 (ks := ["text"]) Z.k_Pattern (ok_Pattern_init Z) (k := 5) (RoomG.mono hr (by omega) : RoomG 6 _) (by rfl) Z.m_Pattern Z.kb_Pattern_init tk1 inS_len (dk_cons (de_v (de_var 0 (pv 0))) dk_nil) (by omega) (by omega)) (de_make 3 Z.k_Pattern (ok_Pattern_init Z) (k := 5) (RoomG.mono hr (by omega) : RoomG 6 _) (by rfl) Z.m_Pattern Z.b_Pattern_init tk1 inS_len (da_cons (de_v (de_var 0 (pv 0))) da_nil) (by omega) (by omega)))))))
    (fun b oe pq => (dss_one (ds_setV 2 sc_L_made.nd rfl (by first | exact .inl rfl | exact .inr rfl) (de_v de_non)))))
    (dss_one (ds_ret (de_var 2 (pv 2))))))
theorem ok_L_is_pattern (Z : Wd K mg) : FnM 0 P w K mg base (L2.CX P w) 2 Z.f_L_is_pattern Z.d_L_is_pattern P_L_is_pattern (spD K Z.T 1 f_L_is_pattern) := fn_ok (k := 1) (body := s_L_is_pattern) Z.F_L_is_pattern sc_L_is_pattern fun cdv A outer s H E B hr tk hp =>
    (dss_cons (ds_if (DW.pt (dw_or (dt_not (dt_tru (de_v (de_bf d_isi (by rfl) Z.n_isinstance (by decide +kernel) (da_cons (de_v (de_var 0 (pv 0))) (da_cons (de_v (de_ty (by rfl) Z.n_str (by decide +kernel))) da_nil)))))) (dw_or1 (dt_not (dt_chain d_le d_le (de_v de_int) (de_v (de_bf d_len (by rfl) Z.n_len (by decide +kernel) (da_cons (de_v (de_var 0 (pv 0))) da_nil))) (de_v de_int))))))
    (dss_one (ds_ret de_bl))
    dss_nil)
    (dss_cons (ds_setLc (i := 1) rfl sc_L_is_pattern.nd rfl (by rfl) (by rfl) (di_any (de_v (de_var 0 (pv 0)))) (own := [("_law_sign", 2)]) (blk_of (N := N_L_is_pattern) (sc := defScope st_L_is_pattern) rfl (by decide +kernel)) rfl (fun s H C cl fp => (dg_name 2 sc_L_is_pattern.nd rfl (by first | exact .inl rfl | exact .inr rfl) (by decide))) (fun s H C cl fp => (dps_one (dt_cmp (d_inD (hu128 hr)) (de_v (de_var 2 (pv 2))) (de_v (de_str (by decide +kernel))) (by rfl)))) (fun s H C cl fp => (de_v (de_var 2 (pv 2)))))
    (dss_frz 1 (dss_one (ds_ret (de_and (de_v (de_cmp (d_ne hr.units) (de_v (de_var 1 (pv 1))) (de_v (de_lst da_nil)) (by rfl))) (de_one (de_cmp (d_eq hr.units) (de_v (de_lc rfl sc_L_is_pattern.nd (di_any (de_v (de_var 0 (pv 0)))) (own := [("_law_sign", 2)]) (blk_of (N := N_L_is_pattern) (sc := defScope st_L_is_pattern) rfl (by decide +kernel)) rfl (fun s H C cl fp => (dg_name 2 sc_L_is_pattern.nd rfl (by first | exact .inl rfl | exact .inr rfl) (by decide))) (fun s H C cl fp => (dps_one (dt_cmp (d_notInD (hu128 hr)) (de_v (de_var 2 (pv 2))) (de_v (de_str (by decide +kernel))) (by rfl)))) (fun s H C cl fp => (de_v (de_var 2 (pv 2)))))) (de_v (de_lst da_nil)) (by rfl)))))))))
theorem ok_L_parsed (Z : Wd K mg) : FnM 0 P w K mg base (L2.CX P w) 2 Z.f_L_parsed Z.d_L_parsed P_L_parsed (spD K Z.T 1 f_L_parsed) := fn_ok (k := 1) (body := s_L_parsed) Z.F_L_parsed sc_L_parsed fun cdv A outer s H E B hr tk hp =>
    (dss_cons (ds_par (i := 1) (j := 2) rfl sc_L_parsed.nd rfl rfl (by decide) (by rfl) (by rfl) (de_lst da_nil) (de_str (by decide +kernel)) (by rfl))
    (dss_cons (ds_for (ix := [3]) hp rfl (di_any (de_v (de_var 0 (pv 0)))) (dg_name 3 sc_L_parsed.nd rfl (by first | exact .inl rfl | exact .inr rfl) (by decide))
    (dss_one (ds_if (dt_cmp (d_inD (hu128 hr)) (de_v (de_var 3 (pv 3))) (de_v (de_str (by decide +kernel))) (by rfl))
    (dss_cons (ds_app 1 (pv 1) (de_v (de_tup (da_cons (de_v (de_var 2 (pv 2))) (da_cons (de_v (de_cmp (d_eq hr.units) (de_v (de_var 3 (pv 3))) (de_v (de_str (by decide +kernel))) (by rfl))) da_nil)))))
    (dss_one (ds_setV 2 sc_L_parsed.nd rfl (by first | exact .inl rfl | exact .inr rfl) (de_v (de_str (by decide +kernel))))))
    (dss_one (ds_setV 2 sc_L_parsed.nd rfl (by first | exact .inl rfl | exact .inr rfl) (de_v (de_op d_add (de_v (de_var 2 (pv 2))) (de_v (de_var 3 (pv 3))))))))))
    (dss_frz 1 (dss_one (ds_ret (de_tup (da_cons (de_v (de_var 1 (pv 1))) (da_cons (de_v (de_var 2 (pv 2))) da_nil))))))))
theorem ok_Pattern_text (Z : Wd K mg) : FnM 0 P w K mg base (L2.CX P w) 2 Z.f_Pattern_text Z.d_Pattern_text P_Pattern_text (spD K Z.T 1 f_Pattern_text) := fn_ok (k := 1) (body := s_Pattern_text) Z.F_Pattern_text sc_Pattern_text fun cdv A outer s H E B hr tk hp =>
    (dss_one (ds_ret (de_fld (one_cls Z.cf_Pattern) (de_v (de_var 0 (pv 0))))))
theorem ok_Pattern_steps (Z : Wd K mg) : FnM 0 P w K mg base (L2.CX P w) 2 Z.f_Pattern_steps Z.d_Pattern_steps P_Pattern_steps (spD K Z.T 1 f_Pattern_steps) := fn_ok (k := 1) (body := s_Pattern_steps) Z.F_Pattern_steps sc_Pattern_steps fun cdv A outer s H E B hr tk hp =>
    (dss_one (ds_ret (de_bt d_tuple (by rfl) Z.n_tuple (by decide +kernel) (da_cons (de_v (de_fld (one_cls Z.cf_Pattern) (de_v (de_var 0 (pv 0))))) da_nil))))
theorem ok_Pattern_tail (Z : Wd K mg) : FnM 0 P w K mg base (L2.CX P w) 2 Z.f_Pattern_tail Z.d_Pattern_tail P_Pattern_tail (spD K Z.T 1 f_Pattern_tail) := fn_ok (k := 1) (body := s_Pattern_tail) Z.F_Pattern_tail sc_Pattern_tail fun cdv A outer s H E B hr tk hp =>
    (dss_one (ds_ret (de_fld (one_cls Z.cf_Pattern) (de_v (de_var 0 (pv 0))))))
theorem ok_law (Z : Wd K mg) : FnM 0 P w K mg base (L2.CX P w) 8 Z.f_law Z.d_law P_law (spD K Z.T 1 f_law) := fn_ok (k := 7) (body := s_law) Z.F_law sc_law fun cdv A outer s H E B hr tk hp =>
    (dss_cons (ds_setV 1 sc_law.nd rfl (by first | exact .inl rfl | exact .inr rfl) (de_v (de_call (ok_L_begun Z) hr (by rfl) ⟨Z.m_L_begun, Z.F_L_begun.kp, Z.b_L_begun⟩ tk fnS_len (da_cons (de_v (de_var 0 (pv 0))) da_nil) (by omega) (by omega))))
    (dss_cons (ds_forG (ix := [2]) hp rfl (dig_range1 (by rfl) Z.n_range d_add (de_v (de_bf (d_min2 rfl) (by rfl) Z.n_min (by decide +kernel) (da_cons (de_v (de_bf (d_lenO 3 Z.l_Pattern_len (ok_Pattern_len Z) (RoomG.mono hr (by omega) : RoomG 3 _) Z.b_Pattern_len fnS_len) (by rfl) Z.n_len (by decide +kernel) (da_cons (de_v (de_var 0 (pv 0))) da_nil))) (da_cons (de_v de_int) da_nil))))) (dg_name 2 sc_law.nd rfl (by first | exact .inl rfl | exact .inr rfl) (by decide))
    (dss_cons (ds_setV 3 sc_law.nd rfl (by first | exact .inl rfl | exact .inr rfl) (de_v (de_call (ok_L_drawn Z) hr (by rfl) ⟨Z.m_L_drawn, Z.F_L_drawn.kp, Z.b_L_drawn⟩ tk fnS_len (da_cons (de_v (de_var 1 (pv 1))) da_nil) (by omega) (by omega))))
    (dss_cons (ds_par (i := 4) (j := 5) rfl sc_law.nd rfl rfl (by decide) (by rfl) (by rfl) (de_call (ok_L_made Z) hr (by rfl) ⟨Z.m_L_made, Z.F_L_made.kp, Z.b_L_made⟩ tk fnS_len (da_cons (de_v (de_var 3 (pv 3))) (da_cons (de_v (de_cmp (d_eq hr.units) (de_v (de_op d_mod (de_v (de_var 2 (pv 2))) (de_v de_int))) (de_v de_int) (by rfl))) da_nil)) (by omega) (by omega)) (de_call (ok_L_is_pattern Z) hr (by rfl) ⟨Z.m_L_is_pattern, Z.F_L_is_pattern.kp, Z.b_L_is_pattern⟩ tk fnS_len (da_cons (de_v (de_var 3 (pv 3))) da_nil) (by omega) (by omega)) (by rfl))
    (dss_cons (ds_if (dt_cmp (d_ne hr.units) (de_v (de_cmp d_notN (de_v (de_var 4 (pv 4))) (de_v de_non) (by rfl))) (de_v (de_var 5 (pv 5))) (by rfl))
    (dss_one (ds_ret de_bl))
    dss_nil)
    (dss_one (ds_if (dt_tru (de_v (de_var 5 (pv 5))))
    (dss_cons (ds_tgt (ix := [6, 7]) (de_v (de_call (ok_L_parsed Z) hr (by rfl) ⟨Z.m_L_parsed, Z.F_L_parsed.kp, Z.b_L_parsed⟩ tk fnS_len (da_cons (de_v (de_var 3 (pv 3))) da_nil) (by omega) (by omega))) (dg_tup rfl (dgs_cons (dg_name 6 sc_law.nd rfl (by first | exact .inl rfl | exact .inr rfl) (by decide)) (dgs_cons (dg_name 7 sc_law.nd rfl (by first | exact .inl rfl | exact .inr rfl) (by decide)) dgs_nil))))
    (dss_cons (ds_setV 8 sc_law.nd rfl (by first | exact .inl rfl | exact .inr rfl) (de_v (de_lst (da_cons (de_v (de_prop 3 (de_v (de_var 4 (pv 4))) Z.cf_Pattern.cl Z.p_Pattern_text (ok_Pattern_text Z) hr Z.b_Pattern_text fnS_len (by omega))) (da_cons (de_v (de_prop 3 (de_v (de_var 4 (pv 4))) Z.cf_Pattern.cl Z.p_Pattern_steps (ok_Pattern_steps Z) hr Z.b_Pattern_steps fnS_len (by omega))) (da_cons (de_v (de_prop 3 (de_v (de_var 4 (pv 4))) Z.cf_Pattern.cl Z.p_Pattern_tail (ok_Pattern_tail Z) hr Z.b_Pattern_tail fnS_len (by omega))) (da_cons (de_v (de_bf (d_lenO 3 Z.l_Pattern_len (ok_Pattern_len Z) (RoomG.mono hr (by omega) : RoomG 3 _) Z.b_Pattern_len fnS_len) (by rfl) Z.n_len (by decide +kernel) (da_cons (de_v (de_var 4 (pv 4))) da_nil))) da_nil)))))))
    (dss_one (ds_if (dt_reprNe hr.gd hr.units (by rfl) Z.n_repr (by decide +kernel) (de_v (de_var 8 (pv 8))) (de_v (de_lst (da_cons (de_v (de_var 3 (pv 3))) (da_cons (de_v (de_bt d_tuple (by rfl) Z.n_tuple (by decide +kernel) (da_cons (de_v (de_var 6 (pv 6))) da_nil))) (da_cons (de_v (de_var 7 (pv 7))) (da_cons (de_v (de_bf (d_lenO 3 Z.l_Pattern_len (ok_Pattern_len Z) (RoomG.mono hr (by omega) : RoomG 3 _) Z.b_Pattern_len fnS_len) (by rfl) Z.n_len (by decide +kernel) (da_cons (de_v (de_var 6 (pv 6))) da_nil))) da_nil)))))))
    (dss_one (ds_ret de_bl))
    dss_nil))))
    dss_nil))))))
    (dss_one (ds_ret (de_cmp (d_eq hr.units) (de_v (de_cval (pe_glob (by rfl) Z.m_Pattern rfl) Z.r_Pattern Z.v_Pattern_MOST (fun _ _ => by simp only [Rep]))) (de_v de_int) (by rfl))))))
end
end L3

namespace L3
open PySem PySem.Spec L2
open PyProof.Rows hiding St
set_option autoImplicit false

/-! ### the draws -/
abbrev kGreat : DK := .inr [103, 114, 101, 97, 116]
abbrev kCells : DK := .inr [99, 101, 108, 108, 115]
abbrev kLeft : DK := .inr [108, 101, 102, 116]
abbrev kTurn : DK := .inr [116, 117, 114, 110]
def stMu (gs cs : List Int) (l t : Int) : Mu := [.lst (gs.map .int), .dct [kGreat, kCells, kLeft, kTurn] [.loc 0, .lst (cs.map .int), .int l, .int t]]
/-- the state of the draws, n more of them may come -/
def StOk (n : Nat) (μ : Mu) : Prop := ∃ (gs cs : List Int) (l t : Int), μ = stMu gs cs l t ∧ 0 ≤ t ∧ t + n ≤ 2 ^ 40
theorem StOk.le {m n : Nat} {μ : Mu} (h : StOk n μ) (hm : m ≤ n) : StOk m μ := by
  obtain ⟨gs, cs, l, t, e, h1, h2⟩ := h
  exact ⟨gs, cs, l, t, e, h1, by omega⟩
theorem merge4 (a b c d : D) : mergeD [] [] [(kGreat, a), (kCells, b), (kLeft, c), (kTurn, d)] = ([kGreat, kCells, kLeft, kTurn], [a, b, c, d]) := by
  simp [mergeD, putD]
theorem put_turn (a b c d e : D) : putD [kGreat, kCells, kLeft, kTurn] [a, b, c, d] kTurn e = ([kGreat, kCells, kLeft, kTurn], [a, b, c, e]) := by
  simp [putD, setK]
theorem put_left (a b c d e : D) : putD [kGreat, kCells, kLeft, kTurn] [a, b, c, d] kLeft e = ([kGreat, kCells, kLeft, kTurn], [a, b, e, d]) := by
  simp [putD, setK]
theorem get_turn (a b c d : D) : getK [kGreat, kCells, kLeft, kTurn] [a, b, c, d] kTurn = some d := by simp [getK]
theorem get_left (a b c d : D) : getK [kGreat, kCells, kLeft, kTurn] [a, b, c, d] kLeft = some c := by simp [getK]
theorem get_great (a b c d : D) : getK [kGreat, kCells, kLeft, kTurn] [a, b, c, d] kGreat = some a := by simp [getK]
theorem get_cells (a b c d : D) : getK [kGreat, kCells, kLeft, kTurn] [a, b, c, d] kCells = some b := by simp [getK]
theorem st_begun {ns : List Int} {k : KR} {x : KX} (h : ns.length ≤ 63) (hk : ∀ μ, StOk 1000000 μ → k (.v (.loc 1)) μ) : f_L_begun [.scr ns] [] k x := by
  simp only [f_L_begun, s_L_begun, sSeq, fnS, inS, sNext, sRet, sRetO, sRetN, sIf, sSet, sSetV, sApp, sFrz, sCell, sPar, sPar3, sTgt, sFor, sWhile, sPut, sTry, sRaise, sExpr, sBrk, sCnt, eName, eC, eOp, eTup, eLst, aNil, aCons, aStar, eIf, eAnd, eOr, eNot, tB, L3.b1, tTru, tAnd', tOr', tNot', eGet, eSl, oNone, oSome, eCall, eFn, iAny, walked, iR1, iR2, iEn, iZp, gN, gTup', gCons', gNil', eLc, wipeD, tYes', eJoin, eSplit, eRepl, eDct, pSem, ePop0, eDZ, eMake, eFld, eFldO, sFldO, eProp, eMeth, eNeg, eRNe, eCh, Rv.d, tru, D.dk, getD', getL, atD, atS, asL, asK, seqOf, slD, cLen, lenD, cBools, cInt1, cBool1, cAbs, cMin2, cMax2, cList, cTuple, cIsi, tyN, cLenO, xNo, vw, D.cmp, cmpL, D.dep, depL, deq, deqL, D.isN, D.noCst, memD, opAdd, opSub, opMul, opMul', opDiv, opMod, opPow, opI2, opB2, opOrd, opLt, opLe, opGt, opGe, opEq, opNe, opIsN, opNotN, opIn, opNotIn, noOwn, Rv.own, lookF, blOf, strsOf, dkL, Option.map_some, Option.map_none, List.map_cons, List.map_nil, List.getElem?_cons_succ, List.getElem?_cons_zero, List.set_cons_succ, List.set_cons_zero, List.cons_append, List.nil_append, List.length_cons, List.length_nil, Nat.reduceSub, List.reduceReplicate, List.replicate_succ, List.replicate_zero, true_and, and_true, if_true, if_false, Nat.reduceAdd, reduceCtorEq, Nat.zero_add, List.append_nil, ite_true, ite_false, Bool.false_eq_true, Bool.true_eq_false, Nat.reduceMul, Bool.and_true, Bool.true_and, Bool.not_true, Bool.not_false, List.all_cons, List.all_nil]
  refine lcS_ind (R := fun ds acc μ => μ = [] ∧ ∃ (l a : List Int), ds = l.map .int ∧ acc = a.map .int ∧ a.length + l.length ≤ 63) ?_ ?_ _ _ _ ⟨rfl, ns, [], rfl, rfl, by simpa using h⟩
  · rintro acc μ ⟨rfl, l, a, hl, rfl, hlen⟩
    refine ⟨by omega, ?_⟩
    simp only [merge4, List.nil_append, List.length_cons, List.length_nil, List.cons_append]
    exact hk _ ⟨a, ns, 0, 0, rfl, by omega, by omega⟩
  · rintro d ds acc μ next ⟨rfl, l, a, hl, rfl, hlen⟩ ih
    cases l with
    | nil => simp at hl
    | cons i l =>
      simp only [List.map_cons, List.cons.injEq] at hl
      obtain ⟨rfl, rfl⟩ := hl
      simp only [List.length_cons] at hlen
      simp only [fnS, inS, sNext, sRet, sRetO, sRetN, sIf, sSet, sSetV, sApp, sFrz, sCell, sPar, sPar3, sTgt, sFor, sWhile, sPut, sTry, sRaise, sExpr, sBrk, sCnt, eName, eC, eOp, eTup, eLst, aNil, aCons, aStar, eIf, eAnd, eOr, eNot, tB, L3.b1, tTru, tAnd', tOr', tNot', eGet, eSl, oNone, oSome, eCall, eFn, iAny, walked, iR1, iR2, iEn, iZp, gN, gTup', gCons', gNil', eLc, wipeD, tYes', eJoin, eSplit, eRepl, eDct, pSem, ePop0, eDZ, eMake, eFld, eFldO, sFldO, eProp, eMeth, eNeg, eRNe, eCh, Rv.d, tru, D.dk, getD', getL, atD, atS, asL, asK, seqOf, slD, cLen, lenD, cBools, cInt1, cBool1, cAbs, cMin2, cMax2, cList, cTuple, cIsi, tyN, cLenO, xNo, vw, D.cmp, cmpL, D.dep, depL, deq, deqL, D.isN, D.noCst, memD, opAdd, opSub, opMul, opMul', opDiv, opMod, opPow, opI2, opB2, opOrd, opLt, opLe, opGt, opGe, opEq, opNe, opIsN, opNotN, opIn, opNotIn, noOwn, Rv.own, lookF, blOf, strsOf, dkL, Option.map_some, Option.map_none, List.map_cons, List.map_nil, List.getElem?_cons_succ, List.getElem?_cons_zero, List.set_cons_succ, List.set_cons_zero, List.cons_append, List.nil_append, List.length_cons, List.length_nil, Nat.reduceSub, List.reduceReplicate, List.replicate_succ, List.replicate_zero, true_and, and_true, if_true, if_false, Nat.reduceAdd, reduceCtorEq, Nat.zero_add, List.append_nil, ite_true, ite_false, Bool.false_eq_true, Bool.true_eq_false, Nat.reduceMul, Bool.and_true, Bool.true_and, Bool.not_true, Bool.not_false, List.all_cons, List.all_nil]
      have h1 : CPow 10 18 := by unfold CPow; decide
      refine ⟨h1, ?_⟩
      split
      · refine ⟨h1, ?_, ih _ _ ⟨rfl, l, a ++ [i - 10 ^ (18 : Int).toNat], rfl, by simp, by simp; omega⟩⟩
        rw [List.length_map, sizeLine_eq]; omega
      · exact ih _ _ ⟨rfl, l, a, rfl, rfl, by omega⟩
/-- one more mixing -/
theorem st_mixed {n : Nat} {μ : Mu} {k : KR} {x : KX} (h : StOk (n + 1) μ) (hk : ∀ i μ, StOk n μ → k (.v (.int i)) μ) : f_L_mixed [.loc 1] μ k x := by
  obtain ⟨gs, cs, l, t, rfl, h0, h1⟩ := h
  simp only [f_L_mixed, s_L_mixed, sSeq, stMu, fnS, inS, sNext, sRet, sRetO, sRetN, sIf, sSet, sSetV, sApp, sFrz, sCell, sPar, sPar3, sTgt, sFor, sWhile, sPut, sTry, sRaise, sExpr, sBrk, sCnt, eName, eC, eOp, eTup, eLst, aNil, aCons, aStar, eIf, eAnd, eOr, eNot, tB, L3.b1, tTru, tAnd', tOr', tNot', eGet, eSl, oNone, oSome, eCall, eFn, iAny, walked, iR1, iR2, iEn, iZp, gN, gTup', gCons', gNil', eLc, wipeD, tYes', eJoin, eSplit, eRepl, eDct, pSem, ePop0, eDZ, eMake, eFld, eFldO, sFldO, eProp, eMeth, eNeg, eRNe, eCh, Rv.d, tru, D.dk, getD', getL, atD, atS, asL, asK, seqOf, slD, cLen, lenD, cBools, cInt1, cBool1, cAbs, cMin2, cMax2, cList, cTuple, cIsi, tyN, cLenO, xNo, vw, D.cmp, cmpL, D.dep, depL, deq, deqL, D.isN, D.noCst, memD, opAdd, opSub, opMul, opMul', opDiv, opMod, opPow, opI2, opB2, opOrd, opLt, opLe, opGt, opGe, opEq, opNe, opIsN, opNotN, opIn, opNotIn, noOwn, Rv.own, lookF, blOf, strsOf, dkL, Option.map_some, Option.map_none, List.map_cons, List.map_nil, List.getElem?_cons_succ, List.getElem?_cons_zero, List.set_cons_succ, List.set_cons_zero, List.cons_append, List.nil_append, List.length_cons, List.length_nil, Nat.reduceSub, List.reduceReplicate, List.replicate_succ, List.replicate_zero, true_and, and_true, if_true, if_false, Nat.reduceAdd, reduceCtorEq, Nat.zero_add, List.append_nil, ite_true, ite_false, Bool.false_eq_true, Bool.true_eq_false, Nat.reduceMul, Bool.and_true, Bool.true_and, Bool.not_true, Bool.not_false, List.all_cons, List.all_nil, get_turn, put_turn, get_cells]
  refine ⟨by rw [sizeLine_eq]; decide, by decide, by rw [sizeLine_eq]; decide, ?_⟩
  have ht : ∀ p : Int, 0 ≤ p → p < 2 ^ 31 → 0 ≤ 90023 * (t + 1) + p / 17 ∧ 90023 * (t + 1) + p / 17 < 2 ^ 64 := fun p p0 p1 => by omega
  refine forS_ind (R := fun ds δ μ => μ = stMu gs cs l (t + 1) ∧ (∃ ps : List Int, ds = ps.map .int ∧ ∀ p ∈ ps, 0 < p ∧ p < 2 ^ 31) ∧ ∃ (f : Int) (a b c : Option Rv), δ = [some (.v (.loc 1)), some (.v (.int (t + 1))), some (.v (.int f)), a, b, c]) ?_ ?_ _ _ _
    ⟨rfl, ⟨[2147483629, 2147483587, 2147483579, 2147483563, 2147483549], rfl, by decide⟩, 0, _, _, _, rfl⟩
  · rintro δ μ ⟨rfl, _, f, a, b, c, rfl⟩
    simp only [fnS, inS, sNext, sRet, sRetO, sRetN, sIf, sSet, sSetV, sApp, sFrz, sCell, sPar, sPar3, sTgt, sFor, sWhile, sPut, sTry, sRaise, sExpr, sBrk, sCnt, eName, eC, eOp, eTup, eLst, aNil, aCons, aStar, eIf, eAnd, eOr, eNot, tB, L3.b1, tTru, tAnd', tOr', tNot', eGet, eSl, oNone, oSome, eCall, eFn, iAny, walked, iR1, iR2, iEn, iZp, gN, gTup', gCons', gNil', eLc, wipeD, tYes', eJoin, eSplit, eRepl, eDct, pSem, ePop0, eDZ, eMake, eFld, eFldO, sFldO, eProp, eMeth, eNeg, eRNe, eCh, Rv.d, tru, D.dk, getD', getL, atD, atS, asL, asK, seqOf, slD, cLen, lenD, cBools, cInt1, cBool1, cAbs, cMin2, cMax2, cList, cTuple, cIsi, tyN, cLenO, xNo, vw, D.cmp, cmpL, D.dep, depL, deq, deqL, D.isN, D.noCst, memD, opAdd, opSub, opMul, opMul', opDiv, opMod, opPow, opI2, opB2, opOrd, opLt, opLe, opGt, opGe, opEq, opNe, opIsN, opNotN, opIn, opNotIn, noOwn, Rv.own, lookF, blOf, strsOf, dkL, Option.map_some, Option.map_none, List.map_cons, List.map_nil, List.getElem?_cons_succ, List.getElem?_cons_zero, List.set_cons_succ, List.set_cons_zero, List.cons_append, List.nil_append, List.length_cons, List.length_nil, Nat.reduceSub, List.reduceReplicate, List.replicate_succ, List.replicate_zero, true_and, and_true, if_true, if_false, Nat.reduceAdd, reduceCtorEq, Nat.zero_add, List.append_nil, ite_true, ite_false, Bool.false_eq_true, Bool.true_eq_false, Nat.reduceMul, Bool.and_true, Bool.true_and, Bool.not_true, Bool.not_false, List.all_cons, List.all_nil]
    exact hk _ _ ⟨gs, cs, l, t + 1, rfl, by omega, by omega⟩
  · rintro d ds δ μ next ⟨rfl, ⟨ps, hp, hq⟩, f, a, b, c, rfl⟩ ih
    cases ps with
    | nil => simp at hp
    | cons p ps =>
      simp only [List.map_cons, List.cons.injEq] at hp
      obtain ⟨rfl, rfl⟩ := hp
      obtain ⟨p0, p1⟩ := hq p List.mem_cons_self
      obtain ⟨b0, b1⟩ := ht p (by omega) p1
      simp only [sSeq, stMu, fnS, inS, sNext, sRet, sRetO, sRetN, sIf, sSet, sSetV, sApp, sFrz, sCell, sPar, sPar3, sTgt, sFor, sWhile, sPut, sTry, sRaise, sExpr, sBrk, sCnt, eName, eC, eOp, eTup, eLst, aNil, aCons, aStar, eIf, eAnd, eOr, eNot, tB, L3.b1, tTru, tAnd', tOr', tNot', eGet, eSl, oNone, oSome, eCall, eFn, iAny, walked, iR1, iR2, iEn, iZp, gN, gTup', gCons', gNil', eLc, wipeD, tYes', eJoin, eSplit, eRepl, eDct, pSem, ePop0, eDZ, eMake, eFld, eFldO, sFldO, eProp, eMeth, eNeg, eRNe, eCh, Rv.d, tru, D.dk, getD', getL, atD, atS, asL, asK, seqOf, slD, cLen, lenD, cBools, cInt1, cBool1, cAbs, cMin2, cMax2, cList, cTuple, cIsi, tyN, cLenO, xNo, vw, D.cmp, cmpL, D.dep, depL, deq, deqL, D.isN, D.noCst, memD, opAdd, opSub, opMul, opMul', opDiv, opMod, opPow, opI2, opB2, opOrd, opLt, opLe, opGt, opGe, opEq, opNe, opIsN, opNotN, opIn, opNotIn, noOwn, Rv.own, lookF, blOf, strsOf, dkL, Option.map_some, Option.map_none, List.map_cons, List.map_nil, List.getElem?_cons_succ, List.getElem?_cons_zero, List.set_cons_succ, List.set_cons_zero, List.cons_append, List.nil_append, List.length_cons, List.length_nil, Nat.reduceSub, List.reduceReplicate, List.replicate_succ, List.replicate_zero, true_and, and_true, if_true, if_false, Nat.reduceAdd, reduceCtorEq, Nat.zero_add, List.append_nil, ite_true, ite_false, Bool.false_eq_true, Bool.true_eq_false, Nat.reduceMul, Bool.and_true, Bool.true_and, Bool.not_true, Bool.not_false, List.all_cons, List.all_nil, get_cells]
      refine ⟨.inl ⟨by decide, by decide⟩, ⟨by decide, by decide⟩, ?_⟩
      refine forS_ind (R := fun ds δ μ => μ = stMu gs cs l (t + 1) ∧ (∃ cs' : List Int, ds = cs'.map .int) ∧ ∃ (b : Int) (c : Option Rv), δ = [some (.v (.loc 1)), some (.v (.int (t + 1))), some (.v (.int f)), some (.v (.int p)), some (.v (.int b)), c] ∧ 0 ≤ b ∧ b < 2 ^ 64) ?_ ?_ _ _ _
        ⟨rfl, ⟨cs, rfl⟩, _, _, rfl, b0, b1⟩
      · rintro δ μ ⟨rfl, _, b, c, rfl, c0, c1⟩
        simp only [fnS, inS, sNext, sRet, sRetO, sRetN, sIf, sSet, sSetV, sApp, sFrz, sCell, sPar, sPar3, sTgt, sFor, sWhile, sPut, sTry, sRaise, sExpr, sBrk, sCnt, eName, eC, eOp, eTup, eLst, aNil, aCons, aStar, eIf, eAnd, eOr, eNot, tB, L3.b1, tTru, tAnd', tOr', tNot', eGet, eSl, oNone, oSome, eCall, eFn, iAny, walked, iR1, iR2, iEn, iZp, gN, gTup', gCons', gNil', eLc, wipeD, tYes', eJoin, eSplit, eRepl, eDct, pSem, ePop0, eDZ, eMake, eFld, eFldO, sFldO, eProp, eMeth, eNeg, eRNe, eCh, Rv.d, tru, D.dk, getD', getL, atD, atS, asL, asK, seqOf, slD, cLen, lenD, cBools, cInt1, cBool1, cAbs, cMin2, cMax2, cList, cTuple, cIsi, tyN, cLenO, xNo, vw, D.cmp, cmpL, D.dep, depL, deq, deqL, D.isN, D.noCst, memD, opAdd, opSub, opMul, opMul', opDiv, opMod, opPow, opI2, opB2, opOrd, opLt, opLe, opGt, opGe, opEq, opNe, opIsN, opNotN, opIn, opNotIn, noOwn, Rv.own, lookF, blOf, strsOf, dkL, Option.map_some, Option.map_none, List.map_cons, List.map_nil, List.getElem?_cons_succ, List.getElem?_cons_zero, List.set_cons_succ, List.set_cons_zero, List.cons_append, List.nil_append, List.length_cons, List.length_nil, Nat.reduceSub, List.reduceReplicate, List.replicate_succ, List.replicate_zero, true_and, and_true, if_true, if_false, Nat.reduceAdd, reduceCtorEq, Nat.zero_add, List.append_nil, ite_true, ite_false, Bool.false_eq_true, Bool.true_eq_false, Nat.reduceMul, Bool.and_true, Bool.true_and, Bool.not_true, Bool.not_false, List.all_cons, List.all_nil]
        refine ⟨.inr ⟨by decide, by decide⟩, ⟨by decide, by decide, by omega⟩, p0, ?_⟩
        exact ih _ _ ⟨rfl, ⟨ps, rfl, fun z hz => hq z (List.mem_cons_of_mem _ hz)⟩, _, _, _, _, rfl⟩
      · rintro d ds δ μ next2 ⟨rfl, ⟨cs', hc⟩, b, c, rfl, c0, c1⟩ ih2
        cases cs' with
        | nil => simp at hc
        | cons e cs' =>
          simp only [List.map_cons, List.cons.injEq] at hc
          obtain ⟨rfl, rfl⟩ := hc
          simp only [fnS, inS, sNext, sRet, sRetO, sRetN, sIf, sSet, sSetV, sApp, sFrz, sCell, sPar, sPar3, sTgt, sFor, sWhile, sPut, sTry, sRaise, sExpr, sBrk, sCnt, eName, eC, eOp, eTup, eLst, aNil, aCons, aStar, eIf, eAnd, eOr, eNot, tB, L3.b1, tTru, tAnd', tOr', tNot', eGet, eSl, oNone, oSome, eCall, eFn, iAny, walked, iR1, iR2, iEn, iZp, gN, gTup', gCons', gNil', eLc, wipeD, tYes', eJoin, eSplit, eRepl, eDct, pSem, ePop0, eDZ, eMake, eFld, eFldO, sFldO, eProp, eMeth, eNeg, eRNe, eCh, Rv.d, tru, D.dk, getD', getL, atD, atS, asL, asK, seqOf, slD, cLen, lenD, cBools, cInt1, cBool1, cAbs, cMin2, cMax2, cList, cTuple, cIsi, tyN, cLenO, xNo, vw, D.cmp, cmpL, D.dep, depL, deq, deqL, D.isN, D.noCst, memD, opAdd, opSub, opMul, opMul', opDiv, opMod, opPow, opI2, opB2, opOrd, opLt, opLe, opGt, opGe, opEq, opNe, opIsN, opNotN, opIn, opNotIn, noOwn, Rv.own, lookF, blOf, strsOf, dkL, Option.map_some, Option.map_none, List.map_cons, List.map_nil, List.getElem?_cons_succ, List.getElem?_cons_zero, List.set_cons_succ, List.set_cons_zero, List.cons_append, List.nil_append, List.length_cons, List.length_nil, Nat.reduceSub, List.reduceReplicate, List.replicate_succ, List.replicate_zero, true_and, and_true, if_true, if_false, Nat.reduceAdd, reduceCtorEq, Nat.zero_add, List.append_nil, ite_true, ite_false, Bool.false_eq_true, Bool.true_eq_false, Nat.reduceMul, Bool.and_true, Bool.true_and, Bool.not_true, Bool.not_false, List.all_cons, List.all_nil]
          refine ⟨.inr ⟨by decide, by decide⟩, p0, ?_⟩
          have m0 := Int.emod_nonneg (b * 48271 + e) (by omega : p ≠ 0)
          have m1 := Int.emod_lt_of_pos (b * 48271 + e) p0
          exact ih2 _ _ ⟨rfl, ⟨cs', rfl⟩, _, _, rfl, m0, by omega⟩
theorem cmp_ints : ∀ l : List Int, cmpL (l.map .int) = true
  | [] => rfl
  | i :: l => by simp only [List.map_cons, cmpL, D.cmp, cmp_ints l, Bool.and_self]
theorem dep_ints : ∀ l : List Int, depL (l.map .int) = 0
  | [] => rfl
  | i :: l => by simp only [List.map_cons, depL, D.dep, dep_ints l, Nat.max_self]
/-- a draw -/
theorem st_take {n : Nat} {b : Int} {μ : Mu} {k : KR} {x : KX} (h : StOk (n + 1) μ) (h0 : 0 < b) (h1 : b < 1073741824) (hk : ∀ i μ, 0 ≤ i → i < b → StOk n μ → k (.v (.int i)) μ) : f_L_take [.loc 1, .int b] μ k x := by
  obtain ⟨gs, cs, l, t, rfl, t0, t1⟩ := h
  have fin : ∀ gs' cs' l' t', StOk n (stMu gs' cs' l' t') → 0 < b ∧ CDiv l' b ∧ 4 < sizeLine ∧ [kGreat, kCells, kLeft, kTurn].Nodup ∧ k (.v (.int (l' % b))) (stMu gs' cs' (l' / b) t') := fun gs' cs' l' t' hs => by
    have m0 := Int.emod_nonneg l' (by omega : b ≠ 0)
    have m1 := Int.emod_lt_of_pos l' h0
    refine ⟨h0, ⟨h0, h1⟩, by rw [sizeLine_eq]; decide, by decide, hk _ _ m0 m1 ?_⟩
    obtain ⟨gs2, cs2, l2, t2, e, q0, q1⟩ := hs
    simp only [stMu, List.cons.injEq, Cell.lst.injEq, Cell.dct.injEq, D.int.injEq, true_and, and_true] at e
    obtain ⟨_, _, _, rfl⟩ := e
    exact ⟨gs', cs', _, t', rfl, q0, q1⟩
  have ok : ∀ gs' l', StOk n (stMu gs' cs l' t) := fun gs' l' => ⟨gs', cs, l', t, rfl, t0, by omega⟩
  have mixed : ∀ (kk : KR), (∀ i μ, StOk n μ → kk (.v (.int i)) μ) → f_L_mixed [.loc 1] (stMu gs cs l t) kk x := fun kk hkk => st_mixed ⟨gs, cs, l, t, rfl, t0, t1⟩ hkk
  simp only [f_L_take, s_L_take, sSeq, stMu, fnS, inS, sNext, sRet, sRetO, sRetN, sIf, sSet, sSetV, sApp, sFrz, sCell, sPar, sPar3, sTgt, sFor, sWhile, sPut, sTry, sRaise, sExpr, sBrk, sCnt, eName, eC, eOp, eTup, eLst, aNil, aCons, aStar, eIf, eAnd, eOr, eNot, tB, L3.b1, tTru, tAnd', tOr', tNot', eGet, eSl, oNone, oSome, eCall, eFn, iAny, walked, iR1, iR2, iEn, iZp, gN, gTup', gCons', gNil', eLc, wipeD, tYes', eJoin, eSplit, eRepl, eDct, pSem, ePop0, eDZ, eMake, eFld, eFldO, sFldO, eProp, eMeth, eNeg, eRNe, eCh, Rv.d, tru, D.dk, getD', getL, atD, atS, asL, asK, seqOf, slD, cLen, lenD, cBools, cInt1, cBool1, cAbs, cMin2, cMax2, cList, cTuple, cIsi, tyN, cLenO, xNo, vw, D.cmp, cmpL, D.dep, depL, deq, deqL, D.isN, D.noCst, memD, opAdd, opSub, opMul, opMul', opDiv, opMod, opPow, opI2, opB2, opOrd, opLt, opLe, opGt, opGe, opEq, opNe, opIsN, opNotN, opIn, opNotIn, noOwn, Rv.own, lookF, blOf, strsOf, dkL, Option.map_some, Option.map_none, List.map_cons, List.map_nil, List.getElem?_cons_succ, List.getElem?_cons_zero, List.set_cons_succ, List.set_cons_zero, List.cons_append, List.nil_append, List.length_cons, List.length_nil, Nat.reduceSub, List.reduceReplicate, List.replicate_succ, List.replicate_zero, true_and, and_true, if_true, if_false, Nat.reduceAdd, reduceCtorEq, Nat.zero_add, List.append_nil, ite_true, ite_false, Bool.false_eq_true, Bool.true_eq_false, Nat.reduceMul, Bool.and_true, Bool.true_and, Bool.not_true, Bool.not_false, List.all_cons, List.all_nil, get_left, put_left, get_great, cmp_ints, dep_ints] at fin mixed ok ⊢
  refine ⟨by decide, ?_⟩
  by_cases hl : l = 0
  · rw [if_pos (by simpa using hl)]
    refine ⟨Nat.zero_le _, by decide, ?_⟩
    cases gs with
    | nil =>
      simp only [fnS, inS, sNext, sRet, sRetO, sRetN, sIf, sSet, sSetV, sApp, sFrz, sCell, sPar, sPar3, sTgt, sFor, sWhile, sPut, sTry, sRaise, sExpr, sBrk, sCnt, eName, eC, eOp, eTup, eLst, aNil, aCons, aStar, eIf, eAnd, eOr, eNot, tB, L3.b1, tTru, tAnd', tOr', tNot', eGet, eSl, oNone, oSome, eCall, eFn, iAny, walked, iR1, iR2, iEn, iZp, gN, gTup', gCons', gNil', eLc, wipeD, tYes', eJoin, eSplit, eRepl, eDct, pSem, ePop0, eDZ, eMake, eFld, eFldO, sFldO, eProp, eMeth, eNeg, eRNe, eCh, Rv.d, tru, D.dk, getD', getL, atD, atS, asL, asK, seqOf, slD, cLen, lenD, cBools, cInt1, cBool1, cAbs, cMin2, cMax2, cList, cTuple, cIsi, tyN, cLenO, xNo, vw, D.cmp, cmpL, D.dep, depL, deq, deqL, D.isN, D.noCst, memD, opAdd, opSub, opMul, opMul', opDiv, opMod, opPow, opI2, opB2, opOrd, opLt, opLe, opGt, opGe, opEq, opNe, opIsN, opNotN, opIn, opNotIn, noOwn, Rv.own, lookF, blOf, strsOf, dkL, Option.map_some, Option.map_none, List.map_cons, List.map_nil, List.getElem?_cons_succ, List.getElem?_cons_zero, List.set_cons_succ, List.set_cons_zero, List.cons_append, List.nil_append, List.length_cons, List.length_nil, Nat.reduceSub, List.reduceReplicate, List.replicate_succ, List.replicate_zero, true_and, and_true, if_true, if_false, Nat.reduceAdd, reduceCtorEq, Nat.zero_add, List.append_nil, ite_true, ite_false, Bool.false_eq_true, Bool.true_eq_false, Nat.reduceMul, Bool.and_true, Bool.true_and, Bool.not_true, Bool.not_false, List.all_cons, List.all_nil]
      refine ⟨by decide, ?_⟩
      rw [if_pos (by simpa using hl)]
      refine mixed _ fun i μ hs => ?_
      obtain ⟨gs2, cs2, l2, t2, rfl, q0, q1⟩ := hs
      simp only [stMu, fnS, inS, sNext, sRet, sRetO, sRetN, sIf, sSet, sSetV, sApp, sFrz, sCell, sPar, sPar3, sTgt, sFor, sWhile, sPut, sTry, sRaise, sExpr, sBrk, sCnt, eName, eC, eOp, eTup, eLst, aNil, aCons, aStar, eIf, eAnd, eOr, eNot, tB, L3.b1, tTru, tAnd', tOr', tNot', eGet, eSl, oNone, oSome, eCall, eFn, iAny, walked, iR1, iR2, iEn, iZp, gN, gTup', gCons', gNil', eLc, wipeD, tYes', eJoin, eSplit, eRepl, eDct, pSem, ePop0, eDZ, eMake, eFld, eFldO, sFldO, eProp, eMeth, eNeg, eRNe, eCh, Rv.d, tru, D.dk, getD', getL, atD, atS, asL, asK, seqOf, slD, cLen, lenD, cBools, cInt1, cBool1, cAbs, cMin2, cMax2, cList, cTuple, cIsi, tyN, cLenO, xNo, vw, D.cmp, cmpL, D.dep, depL, deq, deqL, D.isN, D.noCst, memD, opAdd, opSub, opMul, opMul', opDiv, opMod, opPow, opI2, opB2, opOrd, opLt, opLe, opGt, opGe, opEq, opNe, opIsN, opNotN, opIn, opNotIn, noOwn, Rv.own, lookF, blOf, strsOf, dkL, Option.map_some, Option.map_none, List.map_cons, List.map_nil, List.getElem?_cons_succ, List.getElem?_cons_zero, List.set_cons_succ, List.set_cons_zero, List.cons_append, List.nil_append, List.length_cons, List.length_nil, Nat.reduceSub, List.reduceReplicate, List.replicate_succ, List.replicate_zero, true_and, and_true, if_true, if_false, Nat.reduceAdd, reduceCtorEq, Nat.zero_add, List.append_nil, ite_true, ite_false, Bool.false_eq_true, Bool.true_eq_false, Nat.reduceMul, Bool.and_true, Bool.true_and, Bool.not_true, Bool.not_false, List.all_cons, List.all_nil, get_left, put_left]
      exact ⟨by rw [sizeLine_eq]; decide, by decide, fin _ _ _ _ ⟨gs2, cs2, _, t2, rfl, q0, q1⟩⟩
    | cons g gs =>
      simp only [fnS, inS, sNext, sRet, sRetO, sRetN, sIf, sSet, sSetV, sApp, sFrz, sCell, sPar, sPar3, sTgt, sFor, sWhile, sPut, sTry, sRaise, sExpr, sBrk, sCnt, eName, eC, eOp, eTup, eLst, aNil, aCons, aStar, eIf, eAnd, eOr, eNot, tB, L3.b1, tTru, tAnd', tOr', tNot', eGet, eSl, oNone, oSome, eCall, eFn, iAny, walked, iR1, iR2, iEn, iZp, gN, gTup', gCons', gNil', eLc, wipeD, tYes', eJoin, eSplit, eRepl, eDct, pSem, ePop0, eDZ, eMake, eFld, eFldO, sFldO, eProp, eMeth, eNeg, eRNe, eCh, Rv.d, tru, D.dk, getD', getL, atD, atS, asL, asK, seqOf, slD, cLen, lenD, cBools, cInt1, cBool1, cAbs, cMin2, cMax2, cList, cTuple, cIsi, tyN, cLenO, xNo, vw, D.cmp, cmpL, D.dep, depL, deq, deqL, D.isN, D.noCst, memD, opAdd, opSub, opMul, opMul', opDiv, opMod, opPow, opI2, opB2, opOrd, opLt, opLe, opGt, opGe, opEq, opNe, opIsN, opNotN, opIn, opNotIn, noOwn, Rv.own, lookF, blOf, strsOf, dkL, Option.map_some, Option.map_none, List.map_cons, List.map_nil, List.getElem?_cons_succ, List.getElem?_cons_zero, List.set_cons_succ, List.set_cons_zero, List.cons_append, List.nil_append, List.length_cons, List.length_nil, Nat.reduceSub, List.reduceReplicate, List.replicate_succ, List.replicate_zero, true_and, and_true, if_true, if_false, Nat.reduceAdd, reduceCtorEq, Nat.zero_add, List.append_nil, ite_true, ite_false, Bool.false_eq_true, Bool.true_eq_false, Nat.reduceMul, Bool.and_true, Bool.true_and, Bool.not_true, Bool.not_false, List.all_cons, List.all_nil]
      exact ⟨by rw [sizeLine_eq]; decide, by decide, fin _ _ _ _ (ok _ _)⟩
  · rw [if_neg (by simpa using hl)]
    refine ⟨by decide, ?_⟩
    rw [if_neg (by simpa using hl)]
    exact fin _ _ _ _ (ok _ _)
/-- one of some -/
theorem st_pickT {n : Nat} {s : List Nat} {μ : Mu} {k : KR} {x : KX} (h : StOk (n + 1) μ) (h0 : s ≠ []) (h1 : s.length < 1000) (hk : ∀ c μ, c ∈ s → StOk n μ → k (.v (.str [c])) μ) : f_L_pick [.loc 1, .str s] μ k x := by
  simp only [f_L_pick, s_L_pick, fnS, inS, sNext, sRet, sRetO, sRetN, sIf, sSet, sSetV, sApp, sFrz, sCell, sPar, sPar3, sTgt, sFor, sWhile, sPut, sTry, sRaise, sExpr, sBrk, sCnt, eName, eC, eOp, eTup, eLst, aNil, aCons, aStar, eIf, eAnd, eOr, eNot, tB, L3.b1, tTru, tAnd', tOr', tNot', eGet, eSl, oNone, oSome, eCall, eFn, iAny, walked, iR1, iR2, iEn, iZp, gN, gTup', gCons', gNil', eLc, wipeD, tYes', eJoin, eSplit, eRepl, eDct, pSem, ePop0, eDZ, eMake, eFld, eFldO, sFldO, eProp, eMeth, eNeg, eRNe, eCh, Rv.d, tru, D.dk, getD', getL, atD, atS, asL, asK, seqOf, slD, cLen, lenD, cBools, cInt1, cBool1, cAbs, cMin2, cMax2, cList, cTuple, cIsi, tyN, cLenO, xNo, vw, D.cmp, cmpL, D.dep, depL, deq, deqL, D.isN, D.noCst, memD, opAdd, opSub, opMul, opMul', opDiv, opMod, opPow, opI2, opB2, opOrd, opLt, opLe, opGt, opGe, opEq, opNe, opIsN, opNotN, opIn, opNotIn, noOwn, Rv.own, lookF, blOf, strsOf, dkL, Option.map_some, Option.map_none, List.map_cons, List.map_nil, List.getElem?_cons_succ, List.getElem?_cons_zero, List.set_cons_succ, List.set_cons_zero, List.cons_append, List.nil_append, List.length_cons, List.length_nil, Nat.reduceSub, List.reduceReplicate, List.replicate_succ, List.replicate_zero, true_and, and_true, if_true, if_false, Nat.reduceAdd, reduceCtorEq, Nat.zero_add, List.append_nil, ite_true, ite_false, Bool.false_eq_true, Bool.true_eq_false, Nat.reduceMul, Bool.and_true, Bool.true_and, Bool.not_true, Bool.not_false, List.all_cons, List.all_nil]
  have hp : 0 < s.length := List.length_pos_iff.mpr h0
  refine st_take h (by omega) (by omega) fun i μ i0 i1 hs => ?_
  obtain ⟨j, rfl⟩ := Int.eq_ofNat_of_zero_le i0
  have hj : j < s.length := by omega
  have e : atI s (j : Int) = some s[j] := by simp [atI, ixN, hj]
  simp only [e, Option.map_some, fnS, inS, sNext, sRet, sRetO, sRetN, sIf, sSet, sSetV, sApp, sFrz, sCell, sPar, sPar3, sTgt, sFor, sWhile, sPut, sTry, sRaise, sExpr, sBrk, sCnt, eName, eC, eOp, eTup, eLst, aNil, aCons, aStar, eIf, eAnd, eOr, eNot, tB, L3.b1, tTru, tAnd', tOr', tNot', eGet, eSl, oNone, oSome, eCall, eFn, iAny, walked, iR1, iR2, iEn, iZp, gN, gTup', gCons', gNil', eLc, wipeD, tYes', eJoin, eSplit, eRepl, eDct, pSem, ePop0, eDZ, eMake, eFld, eFldO, sFldO, eProp, eMeth, eNeg, eRNe, eCh, Rv.d, tru, D.dk, getD', getL, atD, atS, asL, asK, seqOf, slD, cLen, lenD, cBools, cInt1, cBool1, cAbs, cMin2, cMax2, cList, cTuple, cIsi, tyN, cLenO, xNo, vw, D.cmp, cmpL, D.dep, depL, deq, deqL, D.isN, D.noCst, memD, opAdd, opSub, opMul, opMul', opDiv, opMod, opPow, opI2, opB2, opOrd, opLt, opLe, opGt, opGe, opEq, opNe, opIsN, opNotN, opIn, opNotIn, noOwn, Rv.own, lookF, blOf, strsOf, dkL, Option.map_some, Option.map_none, List.map_cons, List.map_nil, List.getElem?_cons_succ, List.getElem?_cons_zero, List.set_cons_succ, List.set_cons_zero, List.cons_append, List.nil_append, List.length_cons, List.length_nil, Nat.reduceSub, List.reduceReplicate, List.replicate_succ, List.replicate_zero, true_and, and_true, if_true, if_false, Nat.reduceAdd, reduceCtorEq, Nat.zero_add, List.append_nil, ite_true, ite_false, Bool.false_eq_true, Bool.true_eq_false, Nat.reduceMul, Bool.and_true, Bool.true_and, Bool.not_true, Bool.not_false, List.all_cons, List.all_nil]
  exact hk _ _ (List.getElem_mem hj) hs
theorem st_pickL {n : Nat} {s : List D} {μ : Mu} {k : KR} {x : KX} (h : StOk (n + 1) μ) (h0 : s ≠ []) (h1 : s.length < 1000) (hk : ∀ c μ, c ∈ s → StOk n μ → k (.v c) μ) : f_L_pick [.loc 1, .lst s] μ k x := by
  simp only [f_L_pick, s_L_pick, fnS, inS, sNext, sRet, sRetO, sRetN, sIf, sSet, sSetV, sApp, sFrz, sCell, sPar, sPar3, sTgt, sFor, sWhile, sPut, sTry, sRaise, sExpr, sBrk, sCnt, eName, eC, eOp, eTup, eLst, aNil, aCons, aStar, eIf, eAnd, eOr, eNot, tB, L3.b1, tTru, tAnd', tOr', tNot', eGet, eSl, oNone, oSome, eCall, eFn, iAny, walked, iR1, iR2, iEn, iZp, gN, gTup', gCons', gNil', eLc, wipeD, tYes', eJoin, eSplit, eRepl, eDct, pSem, ePop0, eDZ, eMake, eFld, eFldO, sFldO, eProp, eMeth, eNeg, eRNe, eCh, Rv.d, tru, D.dk, getD', getL, atD, atS, asL, asK, seqOf, slD, cLen, lenD, cBools, cInt1, cBool1, cAbs, cMin2, cMax2, cList, cTuple, cIsi, tyN, cLenO, xNo, vw, D.cmp, cmpL, D.dep, depL, deq, deqL, D.isN, D.noCst, memD, opAdd, opSub, opMul, opMul', opDiv, opMod, opPow, opI2, opB2, opOrd, opLt, opLe, opGt, opGe, opEq, opNe, opIsN, opNotN, opIn, opNotIn, noOwn, Rv.own, lookF, blOf, strsOf, dkL, Option.map_some, Option.map_none, List.map_cons, List.map_nil, List.getElem?_cons_succ, List.getElem?_cons_zero, List.set_cons_succ, List.set_cons_zero, List.cons_append, List.nil_append, List.length_cons, List.length_nil, Nat.reduceSub, List.reduceReplicate, List.replicate_succ, List.replicate_zero, true_and, and_true, if_true, if_false, Nat.reduceAdd, reduceCtorEq, Nat.zero_add, List.append_nil, ite_true, ite_false, Bool.false_eq_true, Bool.true_eq_false, Nat.reduceMul, Bool.and_true, Bool.true_and, Bool.not_true, Bool.not_false, List.all_cons, List.all_nil]
  have hp : 0 < s.length := List.length_pos_iff.mpr h0
  refine st_take h (by omega) (by omega) fun i μ i0 i1 hs => ?_
  obtain ⟨j, rfl⟩ := Int.eq_ofNat_of_zero_le i0
  have hj : j < s.length := by omega
  have e : atI s (j : Int) = some s[j] := by simp [atI, ixN, hj]
  simp only [e, fnS, inS, sNext, sRet, sRetO, sRetN, sIf, sSet, sSetV, sApp, sFrz, sCell, sPar, sPar3, sTgt, sFor, sWhile, sPut, sTry, sRaise, sExpr, sBrk, sCnt, eName, eC, eOp, eTup, eLst, aNil, aCons, aStar, eIf, eAnd, eOr, eNot, tB, L3.b1, tTru, tAnd', tOr', tNot', eGet, eSl, oNone, oSome, eCall, eFn, iAny, walked, iR1, iR2, iEn, iZp, gN, gTup', gCons', gNil', eLc, wipeD, tYes', eJoin, eSplit, eRepl, eDct, pSem, ePop0, eDZ, eMake, eFld, eFldO, sFldO, eProp, eMeth, eNeg, eRNe, eCh, Rv.d, tru, D.dk, getD', getL, atD, atS, asL, asK, seqOf, slD, cLen, lenD, cBools, cInt1, cBool1, cAbs, cMin2, cMax2, cList, cTuple, cIsi, tyN, cLenO, xNo, vw, D.cmp, cmpL, D.dep, depL, deq, deqL, D.isN, D.noCst, memD, opAdd, opSub, opMul, opMul', opDiv, opMod, opPow, opI2, opB2, opOrd, opLt, opLe, opGt, opGe, opEq, opNe, opIsN, opNotN, opIn, opNotIn, noOwn, Rv.own, lookF, blOf, strsOf, dkL, Option.map_some, Option.map_none, List.map_cons, List.map_nil, List.getElem?_cons_succ, List.getElem?_cons_zero, List.set_cons_succ, List.set_cons_zero, List.cons_append, List.nil_append, List.length_cons, List.length_nil, Nat.reduceSub, List.reduceReplicate, List.replicate_succ, List.replicate_zero, true_and, and_true, if_true, if_false, Nat.reduceAdd, reduceCtorEq, Nat.zero_add, List.append_nil, ite_true, ite_false, Bool.false_eq_true, Bool.true_eq_false, Nat.reduceMul, Bool.and_true, Bool.true_and, Bool.not_true, Bool.not_false, List.all_cons, List.all_nil]
  exact hk _ _ (List.getElem_mem hj) hs
/-! ### the drawn texts -/
/-- a drawn text's signs -/
def Sg (c : Nat) : Prop := c = 46 ∨ c = 45 ∨ (97 ≤ c ∧ c ≤ 122)
theorem rangeD_int (n : Int) : ∀ d ∈ rangeD 0 n, ∃ i : Int, d = .int i ∧ 0 ≤ i ∧ i < n := by
  intro d hd
  simp only [rangeD, List.mem_map, List.mem_range] at hd
  obtain ⟨a, ha, rfl⟩ := hd
  exact ⟨_, rfl, by omega, by omega⟩
theorem rangeD_len (n : Int) : (rangeD 0 n).length = n.toNat := by simp [rangeD]
theorem strs_single : ∀ w : List Nat, strsOf (w.map fun c => D.str [c]) = some (w.map fun c => [c])
  | [] => rfl
  | c :: w => by simp only [List.map_cons, strsOf, strs_single w, Option.map_some]
theorem glue_single : ∀ w : List Nat, glueD [] (w.map fun c => [c]) = w
  | [] => rfl
  | [c] => rfl
  | c :: d :: w => by
    have := glue_single (d :: w)
    simp only [List.map_cons] at this ⊢
    simp only [glueD, this, List.nil_append, List.cons_append]
theorem len_single : ∀ w : List Nat, ((w.map fun c => [c]).map List.length).sum + (w.map fun c => [c]).length * ([] : List Nat).length = w.length := by
  intro w
  simp only [List.length_nil, Nat.mul_zero, Nat.add_zero]
  induction w with
  | nil => rfl
  | cons c w ih => simp only [List.map_cons, List.sum_cons, ih, List.length_cons, List.length_nil]; omega
/-- a word of letters: at most most + 1 long -/
theorem st_word {n : Nat} {m : Int} {μ : Mu} {k : KR} {x : KX} (h : StOk (n + m.toNat + 3) μ) (m0 : 0 ≤ m) (m1 : m ≤ 100) (hk : ∀ w μ, w.length ≤ m.toNat + 1 → (∀ c ∈ w, 97 ≤ c ∧ c ≤ 122) → StOk n μ → k (.v (.str w)) μ) : f_L_word [.loc 1, .int m] μ k x := by
  simp only [f_L_word, s_L_word, sSeq, fnS, inS, sNext, sRet, sRetO, sRetN, sIf, sSet, sSetV, sApp, sFrz, sCell, sPar, sPar3, sTgt, sFor, sWhile, sPut, sTry, sRaise, sExpr, sBrk, sCnt, eName, eC, eOp, eTup, eLst, aNil, aCons, aStar, eIf, eAnd, eOr, eNot, tB, L3.b1, tTru, tAnd', tOr', tNot', eGet, eSl, oNone, oSome, eCall, eFn, iAny, walked, iR1, iR2, iEn, iZp, gN, gTup', gCons', gNil', eLc, wipeD, tYes', eJoin, eSplit, eRepl, eDct, pSem, ePop0, eDZ, eMake, eFld, eFldO, sFldO, eProp, eMeth, eNeg, eRNe, eCh, Rv.d, tru, D.dk, getD', getL, atD, atS, asL, asK, seqOf, slD, cLen, lenD, cBools, cInt1, cBool1, cAbs, cMin2, cMax2, cList, cTuple, cIsi, tyN, cLenO, xNo, vw, D.cmp, cmpL, D.dep, depL, deq, deqL, D.isN, D.noCst, memD, opAdd, opSub, opMul, opMul', opDiv, opMod, opPow, opI2, opB2, opOrd, opLt, opLe, opGt, opGe, opEq, opNe, opIsN, opNotN, opIn, opNotIn, noOwn, Rv.own, lookF, blOf, strsOf, dkL, Option.map_some, Option.map_none, List.map_cons, List.map_nil, List.getElem?_cons_succ, List.getElem?_cons_zero, List.set_cons_succ, List.set_cons_zero, List.cons_append, List.nil_append, List.length_cons, List.length_nil, Nat.reduceSub, List.reduceReplicate, List.replicate_succ, List.replicate_zero, true_and, and_true, if_true, if_false, Nat.reduceAdd, reduceCtorEq, Nat.zero_add, List.append_nil, ite_true, ite_false, Bool.false_eq_true, Bool.true_eq_false, Nat.reduceMul, Bool.and_true, Bool.true_and, Bool.not_true, Bool.not_false, List.all_cons, List.all_nil]
  refine st_take (h.le (by omega : (n + m.toNat + 2) + 1 ≤ _)) (by omega) (by omega) fun r μ r0 r1 hs => ?_
  simp only [fnS, inS, sNext, sRet, sRetO, sRetN, sIf, sSet, sSetV, sApp, sFrz, sCell, sPar, sPar3, sTgt, sFor, sWhile, sPut, sTry, sRaise, sExpr, sBrk, sCnt, eName, eC, eOp, eTup, eLst, aNil, aCons, aStar, eIf, eAnd, eOr, eNot, tB, L3.b1, tTru, tAnd', tOr', tNot', eGet, eSl, oNone, oSome, eCall, eFn, iAny, walked, iR1, iR2, iEn, iZp, gN, gTup', gCons', gNil', eLc, wipeD, tYes', eJoin, eSplit, eRepl, eDct, pSem, ePop0, eDZ, eMake, eFld, eFldO, sFldO, eProp, eMeth, eNeg, eRNe, eCh, Rv.d, tru, D.dk, getD', getL, atD, atS, asL, asK, seqOf, slD, cLen, lenD, cBools, cInt1, cBool1, cAbs, cMin2, cMax2, cList, cTuple, cIsi, tyN, cLenO, xNo, vw, D.cmp, cmpL, D.dep, depL, deq, deqL, D.isN, D.noCst, memD, opAdd, opSub, opMul, opMul', opDiv, opMod, opPow, opI2, opB2, opOrd, opLt, opLe, opGt, opGe, opEq, opNe, opIsN, opNotN, opIn, opNotIn, noOwn, Rv.own, lookF, blOf, strsOf, dkL, Option.map_some, Option.map_none, List.map_cons, List.map_nil, List.getElem?_cons_succ, List.getElem?_cons_zero, List.set_cons_succ, List.set_cons_zero, List.cons_append, List.nil_append, List.length_cons, List.length_nil, Nat.reduceSub, List.reduceReplicate, List.replicate_succ, List.replicate_zero, true_and, and_true, if_true, if_false, Nat.reduceAdd, reduceCtorEq, Nat.zero_add, List.append_nil, ite_true, ite_false, Bool.false_eq_true, Bool.true_eq_false, Nat.reduceMul, Bool.and_true, Bool.true_and, Bool.not_true, Bool.not_false, List.all_cons, List.all_nil]
  obtain ⟨j, rfl⟩ := Int.eq_ofNat_of_zero_le r0
  have hj : j ≤ m.toNat := by omega
  refine ⟨by omega, by omega, ?_⟩
  refine lcS_ind (R := fun ds acc μ => (∃ w : List Nat, acc = w.map (fun c => .str [c]) ∧ (∀ c ∈ w, 97 ≤ c ∧ c ≤ 122) ∧ w.length + ds.length ≤ j) ∧ StOk (n + 2 + ds.length) μ) ?_ ?_ _ _ _ ⟨⟨[], rfl, by simp, by rw [rangeD_len]; simp⟩, hs.le (by rw [rangeD_len]; omega)⟩
  · rintro acc μ ⟨⟨w, rfl, hw, hl⟩, hs⟩
    rw [strs_single]
    simp only [glue_single, len_single, fnS, inS, sNext, sRet, sRetO, sRetN, sIf, sSet, sSetV, sApp, sFrz, sCell, sPar, sPar3, sTgt, sFor, sWhile, sPut, sTry, sRaise, sExpr, sBrk, sCnt, eName, eC, eOp, eTup, eLst, aNil, aCons, aStar, eIf, eAnd, eOr, eNot, tB, L3.b1, tTru, tAnd', tOr', tNot', eGet, eSl, oNone, oSome, eCall, eFn, iAny, walked, iR1, iR2, iEn, iZp, gN, gTup', gCons', gNil', eLc, wipeD, tYes', eJoin, eSplit, eRepl, eDct, pSem, ePop0, eDZ, eMake, eFld, eFldO, sFldO, eProp, eMeth, eNeg, eRNe, eCh, Rv.d, tru, D.dk, getD', getL, atD, atS, asL, asK, seqOf, slD, cLen, lenD, cBools, cInt1, cBool1, cAbs, cMin2, cMax2, cList, cTuple, cIsi, tyN, cLenO, xNo, vw, D.cmp, cmpL, D.dep, depL, deq, deqL, D.isN, D.noCst, memD, opAdd, opSub, opMul, opMul', opDiv, opMod, opPow, opI2, opB2, opOrd, opLt, opLe, opGt, opGe, opEq, opNe, opIsN, opNotN, opIn, opNotIn, noOwn, Rv.own, lookF, blOf, strsOf, dkL, Option.map_some, Option.map_none, List.map_cons, List.map_nil, List.getElem?_cons_succ, List.getElem?_cons_zero, List.set_cons_succ, List.set_cons_zero, List.cons_append, List.nil_append, List.length_cons, List.length_nil, Nat.reduceSub, List.reduceReplicate, List.replicate_succ, List.replicate_zero, true_and, and_true, if_true, if_false, Nat.reduceAdd, reduceCtorEq, Nat.zero_add, List.append_nil, ite_true, ite_false, Bool.false_eq_true, Bool.true_eq_false, Nat.reduceMul, Bool.and_true, Bool.true_and, Bool.not_true, Bool.not_false, List.all_cons, List.all_nil]
    simp only [List.length_nil, Nat.add_zero] at hl hs
    refine ⟨by have := len_single w; simp only [List.length_nil] at this; rw [this, sizeLine_eq]; omega, ?_⟩
    refine st_take hs (by omega) (by omega) fun r μ r0 r1 hs => ?_
    simp only [fnS, inS, sNext, sRet, sRetO, sRetN, sIf, sSet, sSetV, sApp, sFrz, sCell, sPar, sPar3, sTgt, sFor, sWhile, sPut, sTry, sRaise, sExpr, sBrk, sCnt, eName, eC, eOp, eTup, eLst, aNil, aCons, aStar, eIf, eAnd, eOr, eNot, tB, L3.b1, tTru, tAnd', tOr', tNot', eGet, eSl, oNone, oSome, eCall, eFn, iAny, walked, iR1, iR2, iEn, iZp, gN, gTup', gCons', gNil', eLc, wipeD, tYes', eJoin, eSplit, eRepl, eDct, pSem, ePop0, eDZ, eMake, eFld, eFldO, sFldO, eProp, eMeth, eNeg, eRNe, eCh, Rv.d, tru, D.dk, getD', getL, atD, atS, asL, asK, seqOf, slD, cLen, lenD, cBools, cInt1, cBool1, cAbs, cMin2, cMax2, cList, cTuple, cIsi, tyN, cLenO, xNo, vw, D.cmp, cmpL, D.dep, depL, deq, deqL, D.isN, D.noCst, memD, opAdd, opSub, opMul, opMul', opDiv, opMod, opPow, opI2, opB2, opOrd, opLt, opLe, opGt, opGe, opEq, opNe, opIsN, opNotN, opIn, opNotIn, noOwn, Rv.own, lookF, blOf, strsOf, dkL, Option.map_some, Option.map_none, List.map_cons, List.map_nil, List.getElem?_cons_succ, List.getElem?_cons_zero, List.set_cons_succ, List.set_cons_zero, List.cons_append, List.nil_append, List.length_cons, List.length_nil, Nat.reduceSub, List.reduceReplicate, List.replicate_succ, List.replicate_zero, true_and, and_true, if_true, if_false, Nat.reduceAdd, reduceCtorEq, Nat.zero_add, List.append_nil, ite_true, ite_false, Bool.false_eq_true, Bool.true_eq_false, Nat.reduceMul, Bool.and_true, Bool.true_and, Bool.not_true, Bool.not_false, List.all_cons, List.all_nil]
    split
    · exact hk _ _ (by omega) hw (hs.le (by omega))
    · refine st_pickT hs (by simp) (by simp) fun c μ hc hs => ?_
      simp only [fnS, inS, sNext, sRet, sRetO, sRetN, sIf, sSet, sSetV, sApp, sFrz, sCell, sPar, sPar3, sTgt, sFor, sWhile, sPut, sTry, sRaise, sExpr, sBrk, sCnt, eName, eC, eOp, eTup, eLst, aNil, aCons, aStar, eIf, eAnd, eOr, eNot, tB, L3.b1, tTru, tAnd', tOr', tNot', eGet, eSl, oNone, oSome, eCall, eFn, iAny, walked, iR1, iR2, iEn, iZp, gN, gTup', gCons', gNil', eLc, wipeD, tYes', eJoin, eSplit, eRepl, eDct, pSem, ePop0, eDZ, eMake, eFld, eFldO, sFldO, eProp, eMeth, eNeg, eRNe, eCh, Rv.d, tru, D.dk, getD', getL, atD, atS, asL, asK, seqOf, slD, cLen, lenD, cBools, cInt1, cBool1, cAbs, cMin2, cMax2, cList, cTuple, cIsi, tyN, cLenO, xNo, vw, D.cmp, cmpL, D.dep, depL, deq, deqL, D.isN, D.noCst, memD, opAdd, opSub, opMul, opMul', opDiv, opMod, opPow, opI2, opB2, opOrd, opLt, opLe, opGt, opGe, opEq, opNe, opIsN, opNotN, opIn, opNotIn, noOwn, Rv.own, lookF, blOf, strsOf, dkL, Option.map_some, Option.map_none, List.map_cons, List.map_nil, List.getElem?_cons_succ, List.getElem?_cons_zero, List.set_cons_succ, List.set_cons_zero, List.cons_append, List.nil_append, List.length_cons, List.length_nil, Nat.reduceSub, List.reduceReplicate, List.replicate_succ, List.replicate_zero, true_and, and_true, if_true, if_false, Nat.reduceAdd, reduceCtorEq, Nat.zero_add, List.append_nil, ite_true, ite_false, Bool.false_eq_true, Bool.true_eq_false, Nat.reduceMul, Bool.and_true, Bool.true_and, Bool.not_true, Bool.not_false, List.all_cons, List.all_nil]
      refine ⟨by rw [sizeLine_eq]; omega, hk _ _ (by simp; omega) (fun c' hc' => ?_) hs⟩
      rcases List.mem_append.mp hc' with h | h
      · exact hw c' h
      · have e : c' = c := by simpa using h
        subst e
        simp only [List.mem_cons, List.not_mem_nil, or_false] at hc
        omega
  · rintro d ds acc μ next ⟨⟨w, rfl, hw, hl⟩, hs⟩ ih
    simp only [List.length_cons] at hl hs
    simp only [fnS, inS, sNext, sRet, sRetO, sRetN, sIf, sSet, sSetV, sApp, sFrz, sCell, sPar, sPar3, sTgt, sFor, sWhile, sPut, sTry, sRaise, sExpr, sBrk, sCnt, eName, eC, eOp, eTup, eLst, aNil, aCons, aStar, eIf, eAnd, eOr, eNot, tB, L3.b1, tTru, tAnd', tOr', tNot', eGet, eSl, oNone, oSome, eCall, eFn, iAny, walked, iR1, iR2, iEn, iZp, gN, gTup', gCons', gNil', eLc, wipeD, tYes', eJoin, eSplit, eRepl, eDct, pSem, ePop0, eDZ, eMake, eFld, eFldO, sFldO, eProp, eMeth, eNeg, eRNe, eCh, Rv.d, tru, D.dk, getD', getL, atD, atS, asL, asK, seqOf, slD, cLen, lenD, cBools, cInt1, cBool1, cAbs, cMin2, cMax2, cList, cTuple, cIsi, tyN, cLenO, xNo, vw, D.cmp, cmpL, D.dep, depL, deq, deqL, D.isN, D.noCst, memD, opAdd, opSub, opMul, opMul', opDiv, opMod, opPow, opI2, opB2, opOrd, opLt, opLe, opGt, opGe, opEq, opNe, opIsN, opNotN, opIn, opNotIn, noOwn, Rv.own, lookF, blOf, strsOf, dkL, Option.map_some, Option.map_none, List.map_cons, List.map_nil, List.getElem?_cons_succ, List.getElem?_cons_zero, List.set_cons_succ, List.set_cons_zero, List.cons_append, List.nil_append, List.length_cons, List.length_nil, Nat.reduceSub, List.reduceReplicate, List.replicate_succ, List.replicate_zero, true_and, and_true, if_true, if_false, Nat.reduceAdd, reduceCtorEq, Nat.zero_add, List.append_nil, ite_true, ite_false, Bool.false_eq_true, Bool.true_eq_false, Nat.reduceMul, Bool.and_true, Bool.true_and, Bool.not_true, Bool.not_false, List.all_cons, List.all_nil]
    refine st_pickT (hs.le (by omega : n + 2 + ds.length + 1 ≤ _)) (by simp) (by simp) fun c μ hc hs => ?_
    refine ⟨by rw [List.length_map, sizeLine_eq]; omega, ih _ _ ⟨⟨w ++ [c], by simp, fun c' hc' => ?_, by simp; omega⟩, hs⟩⟩
    rcases List.mem_append.mp hc' with h | h
    · exact hw c' h
    · have e : c' = c := by simpa using h
      subst e
      simp only [List.mem_cons, List.not_mem_nil, or_false] at hc
      omega
theorem pick5 (b : Nat) (h : b < 5) : ∃ v : Int, atI [D.int 2, D.int 2, D.int 1, D.int 3, D.int 4] (b : Int) = some (.int v) := by
  match b, h with
  | 0, _ => exact ⟨2, rfl⟩
  | 1, _ => exact ⟨2, rfl⟩
  | 2, _ => exact ⟨1, rfl⟩
  | 3, _ => exact ⟨3, rfl⟩
  | 4, _ => exact ⟨4, rfl⟩
/-- a drawn ribbon -/
theorem st_ribbon {n : Nat} {μ : Mu} {k : KR} {x : KX} (h : StOk (n + 200) μ) (hk : ∀ w μ, w.length ≤ 200 → (∀ c ∈ w, Sg c) → StOk n μ → k (.v (.str w)) μ) : f_L_ribbon [.loc 1, .int 12] μ k x := by
  simp only [f_L_ribbon, fnS, inS, Option.map_some, Option.map_none, List.map_cons, List.map_nil, List.getElem?_cons_succ, List.getElem?_cons_zero, List.set_cons_succ, List.set_cons_zero, List.cons_append, List.nil_append, List.length_cons, List.length_nil, Nat.reduceSub, List.reduceReplicate, List.replicate_succ, List.replicate_zero, true_and, and_true, if_true, if_false, Nat.reduceAdd, reduceCtorEq, Nat.zero_add, List.append_nil, ite_true, ite_false, Bool.false_eq_true, Bool.true_eq_false, Nat.reduceMul, Bool.and_true, Bool.true_and, Bool.not_true, Bool.not_false, List.all_cons, List.all_nil]; unfold s_L_ribbon
  refine seq_step fun next hn => ?_; simp only [fnS, inS, sNext, sRet, sRetO, sRetN, sIf, sSet, sSetV, sApp, sFrz, sCell, sPar, sPar3, sTgt, sFor, sWhile, sPut, sTry, sRaise, sExpr, sBrk, sCnt, eName, eC, eOp, eTup, eLst, aNil, aCons, aStar, eIf, eAnd, eOr, eNot, tB, L3.b1, tTru, tAnd', tOr', tNot', eGet, eSl, oNone, oSome, eCall, eFn, iAny, walked, iR1, iR2, iEn, iZp, gN, gTup', gCons', gNil', eLc, wipeD, tYes', eJoin, eSplit, eRepl, eDct, pSem, ePop0, eDZ, eMake, eFld, eFldO, sFldO, eProp, eMeth, eNeg, eRNe, eCh, Rv.d, tru, D.dk, getD', getL, atD, atS, asL, asK, seqOf, slD, cLen, lenD, cBools, cInt1, cBool1, cAbs, cMin2, cMax2, cList, cTuple, cIsi, tyN, cLenO, xNo, vw, D.cmp, cmpL, D.dep, depL, deq, deqL, D.isN, D.noCst, memD, opAdd, opSub, opMul, opMul', opDiv, opMod, opPow, opI2, opB2, opOrd, opLt, opLe, opGt, opGe, opEq, opNe, opIsN, opNotN, opIn, opNotIn, noOwn, Rv.own, lookF, blOf, strsOf, dkL, Option.map_some, Option.map_none, List.map_cons, List.map_nil, List.getElem?_cons_succ, List.getElem?_cons_zero, List.set_cons_succ, List.set_cons_zero, List.cons_append, List.nil_append, List.length_cons, List.length_nil, Nat.reduceSub, List.reduceReplicate, List.replicate_succ, List.replicate_zero, true_and, and_true, if_true, if_false, Nat.reduceAdd, reduceCtorEq, Nat.zero_add, List.append_nil, ite_true, ite_false, Bool.false_eq_true, Bool.true_eq_false, Nat.reduceMul, Bool.and_true, Bool.true_and, Bool.not_true, Bool.not_false, List.all_cons, List.all_nil]
  refine st_take (h.le (by omega : (n + 199) + 1 ≤ _)) (by omega) (by omega) fun a μ a0 a1 h => ?_
  refine st_take (h.le (by omega : (n + 198) + 1 ≤ _)) (by omega) (by omega) fun b μ b0 b1 h => ?_
  refine st_take (h.le (by omega : (n + 197) + 1 ≤ _)) (by omega) (by omega) fun c μ c0 c1 h => ?_
  simp only [fnS, inS, sNext, sRet, sRetO, sRetN, sIf, sSet, sSetV, sApp, sFrz, sCell, sPar, sPar3, sTgt, sFor, sWhile, sPut, sTry, sRaise, sExpr, sBrk, sCnt, eName, eC, eOp, eTup, eLst, aNil, aCons, aStar, eIf, eAnd, eOr, eNot, tB, L3.b1, tTru, tAnd', tOr', tNot', eGet, eSl, oNone, oSome, eCall, eFn, iAny, walked, iR1, iR2, iEn, iZp, gN, gTup', gCons', gNil', eLc, wipeD, tYes', eJoin, eSplit, eRepl, eDct, pSem, ePop0, eDZ, eMake, eFld, eFldO, sFldO, eProp, eMeth, eNeg, eRNe, eCh, Rv.d, tru, D.dk, getD', getL, atD, atS, asL, asK, seqOf, slD, cLen, lenD, cBools, cInt1, cBool1, cAbs, cMin2, cMax2, cList, cTuple, cIsi, tyN, cLenO, xNo, vw, D.cmp, cmpL, D.dep, depL, deq, deqL, D.isN, D.noCst, memD, opAdd, opSub, opMul, opMul', opDiv, opMod, opPow, opI2, opB2, opOrd, opLt, opLe, opGt, opGe, opEq, opNe, opIsN, opNotN, opIn, opNotIn, noOwn, Rv.own, lookF, blOf, strsOf, dkL, Option.map_some, Option.map_none, List.map_cons, List.map_nil, List.getElem?_cons_succ, List.getElem?_cons_zero, List.set_cons_succ, List.set_cons_zero, List.cons_append, List.nil_append, List.length_cons, List.length_nil, Nat.reduceSub, List.reduceReplicate, List.replicate_succ, List.replicate_zero, true_and, and_true, if_true, if_false, Nat.reduceAdd, reduceCtorEq, Nat.zero_add, List.append_nil, ite_true, ite_false, Bool.false_eq_true, Bool.true_eq_false, Nat.reduceMul, Bool.and_true, Bool.true_and, Bool.not_true, Bool.not_false, List.all_cons, List.all_nil]
  obtain ⟨a', rfl⟩ := Int.eq_ofNat_of_zero_le a0
  obtain ⟨b', rfl⟩ := Int.eq_ofNat_of_zero_le b0
  obtain ⟨c', rfl⟩ := Int.eq_ofNat_of_zero_le c0
  refine hn _ _ ?_
  clear hn next
  refine seq_step fun next hn => ?_; simp only [fnS, inS, sNext, sRet, sRetO, sRetN, sIf, sSet, sSetV, sApp, sFrz, sCell, sPar, sPar3, sTgt, sFor, sWhile, sPut, sTry, sRaise, sExpr, sBrk, sCnt, eName, eC, eOp, eTup, eLst, aNil, aCons, aStar, eIf, eAnd, eOr, eNot, tB, L3.b1, tTru, tAnd', tOr', tNot', eGet, eSl, oNone, oSome, eCall, eFn, iAny, walked, iR1, iR2, iEn, iZp, gN, gTup', gCons', gNil', eLc, wipeD, tYes', eJoin, eSplit, eRepl, eDct, pSem, ePop0, eDZ, eMake, eFld, eFldO, sFldO, eProp, eMeth, eNeg, eRNe, eCh, Rv.d, tru, D.dk, getD', getL, atD, atS, asL, asK, seqOf, slD, cLen, lenD, cBools, cInt1, cBool1, cAbs, cMin2, cMax2, cList, cTuple, cIsi, tyN, cLenO, xNo, vw, D.cmp, cmpL, D.dep, depL, deq, deqL, D.isN, D.noCst, memD, opAdd, opSub, opMul, opMul', opDiv, opMod, opPow, opI2, opB2, opOrd, opLt, opLe, opGt, opGe, opEq, opNe, opIsN, opNotN, opIn, opNotIn, noOwn, Rv.own, lookF, blOf, strsOf, dkL, Option.map_some, Option.map_none, List.map_cons, List.map_nil, List.getElem?_cons_succ, List.getElem?_cons_zero, List.set_cons_succ, List.set_cons_zero, List.cons_append, List.nil_append, List.length_cons, List.length_nil, Nat.reduceSub, List.reduceReplicate, List.replicate_succ, List.replicate_zero, true_and, and_true, if_true, if_false, Nat.reduceAdd, reduceCtorEq, Nat.zero_add, List.append_nil, ite_true, ite_false, Bool.false_eq_true, Bool.true_eq_false, Nat.reduceMul, Bool.and_true, Bool.true_and, Bool.not_true, Bool.not_false, List.all_cons, List.all_nil]
  refine hn _ _ ?_
  clear hn next
  refine seq_step fun next hn => ?_; simp only [fnS, inS, sNext, sRet, sRetO, sRetN, sIf, sSet, sSetV, sApp, sFrz, sCell, sPar, sPar3, sTgt, sFor, sWhile, sPut, sTry, sRaise, sExpr, sBrk, sCnt, eName, eC, eOp, eTup, eLst, aNil, aCons, aStar, eIf, eAnd, eOr, eNot, tB, L3.b1, tTru, tAnd', tOr', tNot', eGet, eSl, oNone, oSome, eCall, eFn, iAny, walked, iR1, iR2, iEn, iZp, gN, gTup', gCons', gNil', eLc, wipeD, tYes', eJoin, eSplit, eRepl, eDct, pSem, ePop0, eDZ, eMake, eFld, eFldO, sFldO, eProp, eMeth, eNeg, eRNe, eCh, Rv.d, tru, D.dk, getD', getL, atD, atS, asL, asK, seqOf, slD, cLen, lenD, cBools, cInt1, cBool1, cAbs, cMin2, cMax2, cList, cTuple, cIsi, tyN, cLenO, xNo, vw, D.cmp, cmpL, D.dep, depL, deq, deqL, D.isN, D.noCst, memD, opAdd, opSub, opMul, opMul', opDiv, opMod, opPow, opI2, opB2, opOrd, opLt, opLe, opGt, opGe, opEq, opNe, opIsN, opNotN, opIn, opNotIn, noOwn, Rv.own, lookF, blOf, strsOf, dkL, Option.map_some, Option.map_none, List.map_cons, List.map_nil, List.getElem?_cons_succ, List.getElem?_cons_zero, List.set_cons_succ, List.set_cons_zero, List.cons_append, List.nil_append, List.length_cons, List.length_nil, Nat.reduceSub, List.reduceReplicate, List.replicate_succ, List.replicate_zero, true_and, and_true, if_true, if_false, Nat.reduceAdd, reduceCtorEq, Nat.zero_add, List.append_nil, ite_true, ite_false, Bool.false_eq_true, Bool.true_eq_false, Nat.reduceMul, Bool.and_true, Bool.true_and, Bool.not_true, Bool.not_false, List.all_cons, List.all_nil]
  refine ⟨by omega, by omega, ?_⟩
  refine forS_ind (R := fun ds δ μ => (∃ (w : List Nat) (z : Option Rv), δ = [some (.v (.loc 1)), some (.v (.int 12)), some (.v (.int (1 + (a' : Int)))), some (.v (.int b')), some (.v (.int (1 + (c' : Int)))), some (.v (.str w)), z] ∧ (∀ c ∈ w, Sg c) ∧ w.length + 4 * ds.length ≤ 48) ∧ StOk (n + 10 + 7 * ds.length) μ ∧ ∀ d ∈ ds, ∃ i : Int, d = .int i) ?_ ?_ _ _ _
    ⟨⟨[], none, rfl, by simp, by rw [rangeD_len]; simp; omega⟩, h.le (by rw [rangeD_len]; omega), fun d hd => by obtain ⟨i, e, _⟩ := rangeD_int _ d hd; exact ⟨i, e⟩⟩
  · rintro δ μ ⟨⟨w, z, rfl, hw, hl⟩, h, _⟩
    simp only [List.length_nil] at hl h
    refine hn _ _ ?_
    simp only [fnS, inS, sNext, sRet, sRetO, sRetN, sIf, sSet, sSetV, sApp, sFrz, sCell, sPar, sPar3, sTgt, sFor, sWhile, sPut, sTry, sRaise, sExpr, sBrk, sCnt, eName, eC, eOp, eTup, eLst, aNil, aCons, aStar, eIf, eAnd, eOr, eNot, tB, L3.b1, tTru, tAnd', tOr', tNot', eGet, eSl, oNone, oSome, eCall, eFn, iAny, walked, iR1, iR2, iEn, iZp, gN, gTup', gCons', gNil', eLc, wipeD, tYes', eJoin, eSplit, eRepl, eDct, pSem, ePop0, eDZ, eMake, eFld, eFldO, sFldO, eProp, eMeth, eNeg, eRNe, eCh, Rv.d, tru, D.dk, getD', getL, atD, atS, asL, asK, seqOf, slD, cLen, lenD, cBools, cInt1, cBool1, cAbs, cMin2, cMax2, cList, cTuple, cIsi, tyN, cLenO, xNo, vw, D.cmp, cmpL, D.dep, depL, deq, deqL, D.isN, D.noCst, memD, opAdd, opSub, opMul, opMul', opDiv, opMod, opPow, opI2, opB2, opOrd, opLt, opLe, opGt, opGe, opEq, opNe, opIsN, opNotN, opIn, opNotIn, noOwn, Rv.own, lookF, blOf, strsOf, dkL, Option.map_some, Option.map_none, List.map_cons, List.map_nil, List.getElem?_cons_succ, List.getElem?_cons_zero, List.set_cons_succ, List.set_cons_zero, List.cons_append, List.nil_append, List.length_cons, List.length_nil, Nat.reduceSub, List.reduceReplicate, List.replicate_succ, List.replicate_zero, true_and, and_true, if_true, if_false, Nat.reduceAdd, reduceCtorEq, Nat.zero_add, List.append_nil, ite_true, ite_false, Bool.false_eq_true, Bool.true_eq_false, Nat.reduceMul, Bool.and_true, Bool.true_and, Bool.not_true, Bool.not_false, List.all_cons, List.all_nil]
    refine st_take (h.le (by omega : (n + 9) + 1 ≤ _)) (by omega) (by omega) fun r μ r0 r1 h => ?_
    simp only [fnS, inS, sNext, sRet, sRetO, sRetN, sIf, sSet, sSetV, sApp, sFrz, sCell, sPar, sPar3, sTgt, sFor, sWhile, sPut, sTry, sRaise, sExpr, sBrk, sCnt, eName, eC, eOp, eTup, eLst, aNil, aCons, aStar, eIf, eAnd, eOr, eNot, tB, L3.b1, tTru, tAnd', tOr', tNot', eGet, eSl, oNone, oSome, eCall, eFn, iAny, walked, iR1, iR2, iEn, iZp, gN, gTup', gCons', gNil', eLc, wipeD, tYes', eJoin, eSplit, eRepl, eDct, pSem, ePop0, eDZ, eMake, eFld, eFldO, sFldO, eProp, eMeth, eNeg, eRNe, eCh, Rv.d, tru, D.dk, getD', getL, atD, atS, asL, asK, seqOf, slD, cLen, lenD, cBools, cInt1, cBool1, cAbs, cMin2, cMax2, cList, cTuple, cIsi, tyN, cLenO, xNo, vw, D.cmp, cmpL, D.dep, depL, deq, deqL, D.isN, D.noCst, memD, opAdd, opSub, opMul, opMul', opDiv, opMod, opPow, opI2, opB2, opOrd, opLt, opLe, opGt, opGe, opEq, opNe, opIsN, opNotN, opIn, opNotIn, noOwn, Rv.own, lookF, blOf, strsOf, dkL, Option.map_some, Option.map_none, List.map_cons, List.map_nil, List.getElem?_cons_succ, List.getElem?_cons_zero, List.set_cons_succ, List.set_cons_zero, List.cons_append, List.nil_append, List.length_cons, List.length_nil, Nat.reduceSub, List.reduceReplicate, List.replicate_succ, List.replicate_zero, true_and, and_true, if_true, if_false, Nat.reduceAdd, reduceCtorEq, Nat.zero_add, List.append_nil, ite_true, ite_false, Bool.false_eq_true, Bool.true_eq_false, Nat.reduceMul, Bool.and_true, Bool.true_and, Bool.not_true, Bool.not_false, List.all_cons, List.all_nil]
    refine ⟨by decide, ?_⟩
    refine ite2 (fun _ => ?_) (fun _ => ?_)
    · refine st_word (m := 2) (n := n) (h.le (by show n + 2 + 3 ≤ _; omega)) (by omega) (by omega) fun v μ v0 v1 h => ?_
      have v0' : v.length ≤ 3 := v0
      simp only [fnS, inS, sNext, sRet, sRetO, sRetN, sIf, sSet, sSetV, sApp, sFrz, sCell, sPar, sPar3, sTgt, sFor, sWhile, sPut, sTry, sRaise, sExpr, sBrk, sCnt, eName, eC, eOp, eTup, eLst, aNil, aCons, aStar, eIf, eAnd, eOr, eNot, tB, L3.b1, tTru, tAnd', tOr', tNot', eGet, eSl, oNone, oSome, eCall, eFn, iAny, walked, iR1, iR2, iEn, iZp, gN, gTup', gCons', gNil', eLc, wipeD, tYes', eJoin, eSplit, eRepl, eDct, pSem, ePop0, eDZ, eMake, eFld, eFldO, sFldO, eProp, eMeth, eNeg, eRNe, eCh, Rv.d, tru, D.dk, getD', getL, atD, atS, asL, asK, seqOf, slD, cLen, lenD, cBools, cInt1, cBool1, cAbs, cMin2, cMax2, cList, cTuple, cIsi, tyN, cLenO, xNo, vw, D.cmp, cmpL, D.dep, depL, deq, deqL, D.isN, D.noCst, memD, opAdd, opSub, opMul, opMul', opDiv, opMod, opPow, opI2, opB2, opOrd, opLt, opLe, opGt, opGe, opEq, opNe, opIsN, opNotN, opIn, opNotIn, noOwn, Rv.own, lookF, blOf, strsOf, dkL, Option.map_some, Option.map_none, List.map_cons, List.map_nil, List.getElem?_cons_succ, List.getElem?_cons_zero, List.set_cons_succ, List.set_cons_zero, List.cons_append, List.nil_append, List.length_cons, List.length_nil, Nat.reduceSub, List.reduceReplicate, List.replicate_succ, List.replicate_zero, true_and, and_true, if_true, if_false, Nat.reduceAdd, reduceCtorEq, Nat.zero_add, List.append_nil, ite_true, ite_false, Bool.false_eq_true, Bool.true_eq_false, Nat.reduceMul, Bool.and_true, Bool.true_and, Bool.not_true, Bool.not_false, List.all_cons, List.all_nil]
      refine ⟨by rw [sizeLine_eq]; omega, hk _ _ (by rw [List.length_append]; omega) (fun c hc => ?_) h⟩
      rcases List.mem_append.mp hc with hc | hc
      · exact hw c hc
      · exact .inr (.inr (v1 c hc))
    · exact hk _ _ (by omega) hw (h.le (by omega))
  · rintro d ds δ μ next2 ⟨⟨w, z, rfl, hw, hl⟩, h, hd⟩ ih
    obtain ⟨i, rfl⟩ := hd d List.mem_cons_self
    have hd' : ∀ d ∈ ds, ∃ i : Int, d = .int i := fun d h => hd d (List.mem_cons_of_mem _ h)
    simp only [List.length_cons] at hl h
    simp only [gN, List.set_cons_succ, List.set_cons_zero]
    have tailR : ∀ (w2 : List Nat) (μ : Mu), (∀ c ∈ w2, Sg c) → w2.length + 1 + 4 * ds.length ≤ 48 → StOk (n + 11 + 7 * ds.length) μ →
        sSetV 5 (eOp opAdd (eName 5) (eGet (eLst (aCons (eC (.str [46])) (aCons (eC (.str [45])) aNil))) (eFn cInt1 (aCons (eOp opLt (eCall f_L_take (aCons (eName 0) (aCons (eC (.int 4)) aNil))) (eGet (eLst (aCons (eC (.int 2)) (aCons (eC (.int 2)) (aCons (eC (.int 1)) (aCons (eC (.int 3)) (aCons (eC (.int 4)) aNil)))))) (eName 3))) aNil))))
          [some (.v (.loc 1)), some (.v (.int 12)), some (.v (.int (1 + (a' : Int)))), some (.v (.int b')), some (.v (.int (1 + (c' : Int)))), some (.v (.str w2)), some (.v (.int i))] μ { nx := next2, rt := k, bk := next, ct := next2, ex := fun e _ μ' => x e μ' } := fun w2 μ h2 l2 hs => by
      simp only [fnS, inS, sNext, sRet, sRetO, sRetN, sIf, sSet, sSetV, sApp, sFrz, sCell, sPar, sPar3, sTgt, sFor, sWhile, sPut, sTry, sRaise, sExpr, sBrk, sCnt, eName, eC, eOp, eTup, eLst, aNil, aCons, aStar, eIf, eAnd, eOr, eNot, tB, L3.b1, tTru, tAnd', tOr', tNot', eGet, eSl, oNone, oSome, eCall, eFn, iAny, walked, iR1, iR2, iEn, iZp, gN, gTup', gCons', gNil', eLc, wipeD, tYes', eJoin, eSplit, eRepl, eDct, pSem, ePop0, eDZ, eMake, eFld, eFldO, sFldO, eProp, eMeth, eNeg, eRNe, eCh, Rv.d, tru, D.dk, getD', getL, atD, atS, asL, asK, seqOf, slD, cLen, lenD, cBools, cInt1, cBool1, cAbs, cMin2, cMax2, cList, cTuple, cIsi, tyN, cLenO, xNo, vw, D.cmp, cmpL, D.dep, depL, deq, deqL, D.isN, D.noCst, memD, opAdd, opSub, opMul, opMul', opDiv, opMod, opPow, opI2, opB2, opOrd, opLt, opLe, opGt, opGe, opEq, opNe, opIsN, opNotN, opIn, opNotIn, noOwn, Rv.own, lookF, blOf, strsOf, dkL, Option.map_some, Option.map_none, List.map_cons, List.map_nil, List.getElem?_cons_succ, List.getElem?_cons_zero, List.set_cons_succ, List.set_cons_zero, List.cons_append, List.nil_append, List.length_cons, List.length_nil, Nat.reduceSub, List.reduceReplicate, List.replicate_succ, List.replicate_zero, true_and, and_true, if_true, if_false, Nat.reduceAdd, reduceCtorEq, Nat.zero_add, List.append_nil, ite_true, ite_false, Bool.false_eq_true, Bool.true_eq_false, Nat.reduceMul, Bool.and_true, Bool.true_and, Bool.not_true, Bool.not_false, List.all_cons, List.all_nil]
      refine ⟨by rw [sizeLine_eq]; decide, st_take (hs.le (by omega : (n + 10 + 7 * ds.length) + 1 ≤ _)) (by omega) (by omega) fun r μ r0 r1 h => ⟨by rw [sizeLine_eq]; decide, ?_⟩⟩
      obtain ⟨v, hv⟩ := pick5 b' (by omega)
      rw [hv]
      simp only [fnS, inS, sNext, sRet, sRetO, sRetN, sIf, sSet, sSetV, sApp, sFrz, sCell, sPar, sPar3, sTgt, sFor, sWhile, sPut, sTry, sRaise, sExpr, sBrk, sCnt, eName, eC, eOp, eTup, eLst, aNil, aCons, aStar, eIf, eAnd, eOr, eNot, tB, L3.b1, tTru, tAnd', tOr', tNot', eGet, eSl, oNone, oSome, eCall, eFn, iAny, walked, iR1, iR2, iEn, iZp, gN, gTup', gCons', gNil', eLc, wipeD, tYes', eJoin, eSplit, eRepl, eDct, pSem, ePop0, eDZ, eMake, eFld, eFldO, sFldO, eProp, eMeth, eNeg, eRNe, eCh, Rv.d, tru, D.dk, getD', getL, atD, atS, asL, asK, seqOf, slD, cLen, lenD, cBools, cInt1, cBool1, cAbs, cMin2, cMax2, cList, cTuple, cIsi, tyN, cLenO, xNo, vw, D.cmp, cmpL, D.dep, depL, deq, deqL, D.isN, D.noCst, memD, opAdd, opSub, opMul, opMul', opDiv, opMod, opPow, opI2, opB2, opOrd, opLt, opLe, opGt, opGe, opEq, opNe, opIsN, opNotN, opIn, opNotIn, noOwn, Rv.own, lookF, blOf, strsOf, dkL, Option.map_some, Option.map_none, List.map_cons, List.map_nil, List.getElem?_cons_succ, List.getElem?_cons_zero, List.set_cons_succ, List.set_cons_zero, List.cons_append, List.nil_append, List.length_cons, List.length_nil, Nat.reduceSub, List.reduceReplicate, List.replicate_succ, List.replicate_zero, true_and, and_true, if_true, if_false, Nat.reduceAdd, reduceCtorEq, Nat.zero_add, List.append_nil, ite_true, ite_false, Bool.false_eq_true, Bool.true_eq_false, Nat.reduceMul, Bool.and_true, Bool.true_and, Bool.not_true, Bool.not_false, List.all_cons, List.all_nil]
      have e2 : atI [D.str [46], D.str [45]] (if decide (r < v) = true then 1 else 0) = some (.str [if r < v then 45 else 46]) := by
        by_cases q : r < v
        · simp [q, atI, ixN]
        · simp [q, atI, ixN]
      rw [e2]
      simp only [fnS, inS, sNext, sRet, sRetO, sRetN, sIf, sSet, sSetV, sApp, sFrz, sCell, sPar, sPar3, sTgt, sFor, sWhile, sPut, sTry, sRaise, sExpr, sBrk, sCnt, eName, eC, eOp, eTup, eLst, aNil, aCons, aStar, eIf, eAnd, eOr, eNot, tB, L3.b1, tTru, tAnd', tOr', tNot', eGet, eSl, oNone, oSome, eCall, eFn, iAny, walked, iR1, iR2, iEn, iZp, gN, gTup', gCons', gNil', eLc, wipeD, tYes', eJoin, eSplit, eRepl, eDct, pSem, ePop0, eDZ, eMake, eFld, eFldO, sFldO, eProp, eMeth, eNeg, eRNe, eCh, Rv.d, tru, D.dk, getD', getL, atD, atS, asL, asK, seqOf, slD, cLen, lenD, cBools, cInt1, cBool1, cAbs, cMin2, cMax2, cList, cTuple, cIsi, tyN, cLenO, xNo, vw, D.cmp, cmpL, D.dep, depL, deq, deqL, D.isN, D.noCst, memD, opAdd, opSub, opMul, opMul', opDiv, opMod, opPow, opI2, opB2, opOrd, opLt, opLe, opGt, opGe, opEq, opNe, opIsN, opNotN, opIn, opNotIn, noOwn, Rv.own, lookF, blOf, strsOf, dkL, Option.map_some, Option.map_none, List.map_cons, List.map_nil, List.getElem?_cons_succ, List.getElem?_cons_zero, List.set_cons_succ, List.set_cons_zero, List.cons_append, List.nil_append, List.length_cons, List.length_nil, Nat.reduceSub, List.reduceReplicate, List.replicate_succ, List.replicate_zero, true_and, and_true, if_true, if_false, Nat.reduceAdd, reduceCtorEq, Nat.zero_add, List.append_nil, ite_true, ite_false, Bool.false_eq_true, Bool.true_eq_false, Nat.reduceMul, Bool.and_true, Bool.true_and, Bool.not_true, Bool.not_false, List.all_cons, List.all_nil]
      refine ⟨by rw [sizeLine_eq]; omega, ih _ _ ⟨⟨_, _, rfl, fun c hc => ?_, by simp; omega⟩, h, hd'⟩⟩
      rcases List.mem_append.mp hc with hc | hc
      · exact h2 c hc
      · have e : c = if r < v then 45 else 46 := by simpa using hc
        subst e
        split
        · exact .inr (.inl rfl)
        · exact .inl rfl
    refine seq_step fun next3 hn3 => ?_
    simp only [fnS, inS, sNext, sRet, sRetO, sRetN, sIf, sSet, sSetV, sApp, sFrz, sCell, sPar, sPar3, sTgt, sFor, sWhile, sPut, sTry, sRaise, sExpr, sBrk, sCnt, eName, eC, eOp, eTup, eLst, aNil, aCons, aStar, eIf, eAnd, eOr, eNot, tB, L3.b1, tTru, tAnd', tOr', tNot', eGet, eSl, oNone, oSome, eCall, eFn, iAny, walked, iR1, iR2, iEn, iZp, gN, gTup', gCons', gNil', eLc, wipeD, tYes', eJoin, eSplit, eRepl, eDct, pSem, ePop0, eDZ, eMake, eFld, eFldO, sFldO, eProp, eMeth, eNeg, eRNe, eCh, Rv.d, tru, D.dk, getD', getL, atD, atS, asL, asK, seqOf, slD, cLen, lenD, cBools, cInt1, cBool1, cAbs, cMin2, cMax2, cList, cTuple, cIsi, tyN, cLenO, xNo, vw, D.cmp, cmpL, D.dep, depL, deq, deqL, D.isN, D.noCst, memD, opAdd, opSub, opMul, opMul', opDiv, opMod, opPow, opI2, opB2, opOrd, opLt, opLe, opGt, opGe, opEq, opNe, opIsN, opNotN, opIn, opNotIn, noOwn, Rv.own, lookF, blOf, strsOf, dkL, Option.map_some, Option.map_none, List.map_cons, List.map_nil, List.getElem?_cons_succ, List.getElem?_cons_zero, List.set_cons_succ, List.set_cons_zero, List.cons_append, List.nil_append, List.length_cons, List.length_nil, Nat.reduceSub, List.reduceReplicate, List.replicate_succ, List.replicate_zero, true_and, and_true, if_true, if_false, Nat.reduceAdd, reduceCtorEq, Nat.zero_add, List.append_nil, ite_true, ite_false, Bool.false_eq_true, Bool.true_eq_false, Nat.reduceMul, Bool.and_true, Bool.true_and, Bool.not_true, Bool.not_false, List.all_cons, List.all_nil]
    refine st_take (h.le (by omega : (n + 16 + 7 * ds.length) + 1 ≤ _)) (by omega) (by omega) fun r μ r0 r1 h => ?_
    simp only [fnS, inS, sNext, sRet, sRetO, sRetN, sIf, sSet, sSetV, sApp, sFrz, sCell, sPar, sPar3, sTgt, sFor, sWhile, sPut, sTry, sRaise, sExpr, sBrk, sCnt, eName, eC, eOp, eTup, eLst, aNil, aCons, aStar, eIf, eAnd, eOr, eNot, tB, L3.b1, tTru, tAnd', tOr', tNot', eGet, eSl, oNone, oSome, eCall, eFn, iAny, walked, iR1, iR2, iEn, iZp, gN, gTup', gCons', gNil', eLc, wipeD, tYes', eJoin, eSplit, eRepl, eDct, pSem, ePop0, eDZ, eMake, eFld, eFldO, sFldO, eProp, eMeth, eNeg, eRNe, eCh, Rv.d, tru, D.dk, getD', getL, atD, atS, asL, asK, seqOf, slD, cLen, lenD, cBools, cInt1, cBool1, cAbs, cMin2, cMax2, cList, cTuple, cIsi, tyN, cLenO, xNo, vw, D.cmp, cmpL, D.dep, depL, deq, deqL, D.isN, D.noCst, memD, opAdd, opSub, opMul, opMul', opDiv, opMod, opPow, opI2, opB2, opOrd, opLt, opLe, opGt, opGe, opEq, opNe, opIsN, opNotN, opIn, opNotIn, noOwn, Rv.own, lookF, blOf, strsOf, dkL, Option.map_some, Option.map_none, List.map_cons, List.map_nil, List.getElem?_cons_succ, List.getElem?_cons_zero, List.set_cons_succ, List.set_cons_zero, List.cons_append, List.nil_append, List.length_cons, List.length_nil, Nat.reduceSub, List.reduceReplicate, List.replicate_succ, List.replicate_zero, true_and, and_true, if_true, if_false, Nat.reduceAdd, reduceCtorEq, Nat.zero_add, List.append_nil, ite_true, ite_false, Bool.false_eq_true, Bool.true_eq_false, Nat.reduceMul, Bool.and_true, Bool.true_and, Bool.not_true, Bool.not_false, List.all_cons, List.all_nil]
    refine ⟨by decide, ?_⟩
    have skip : next3 [some (.v (.loc 1)), some (.v (.int 12)), some (.v (.int (1 + (a' : Int)))), some (.v (.int b')), some (.v (.int (1 + (c' : Int)))), some (.v (.str w)), some (.v (.int i))] μ := hn3 _ _ (tailR w μ hw (by omega) (h.le (by omega)))
    refine ite2 (fun _ => ?_) (fun _ => ?_)
    · refine ite2 (fun _ => ?_) (fun _ => ?_)
      · refine st_word (m := 2) (n := n + 11 + 7 * ds.length) (h.le (by show n + 11 + 7 * ds.length + 2 + 3 ≤ _; omega)) (by omega) (by omega) fun v μ v0 v1 h => ?_
        have v0' : v.length ≤ 3 := v0
        simp only [fnS, inS, sNext, sRet, sRetO, sRetN, sIf, sSet, sSetV, sApp, sFrz, sCell, sPar, sPar3, sTgt, sFor, sWhile, sPut, sTry, sRaise, sExpr, sBrk, sCnt, eName, eC, eOp, eTup, eLst, aNil, aCons, aStar, eIf, eAnd, eOr, eNot, tB, L3.b1, tTru, tAnd', tOr', tNot', eGet, eSl, oNone, oSome, eCall, eFn, iAny, walked, iR1, iR2, iEn, iZp, gN, gTup', gCons', gNil', eLc, wipeD, tYes', eJoin, eSplit, eRepl, eDct, pSem, ePop0, eDZ, eMake, eFld, eFldO, sFldO, eProp, eMeth, eNeg, eRNe, eCh, Rv.d, tru, D.dk, getD', getL, atD, atS, asL, asK, seqOf, slD, cLen, lenD, cBools, cInt1, cBool1, cAbs, cMin2, cMax2, cList, cTuple, cIsi, tyN, cLenO, xNo, vw, D.cmp, cmpL, D.dep, depL, deq, deqL, D.isN, D.noCst, memD, opAdd, opSub, opMul, opMul', opDiv, opMod, opPow, opI2, opB2, opOrd, opLt, opLe, opGt, opGe, opEq, opNe, opIsN, opNotN, opIn, opNotIn, noOwn, Rv.own, lookF, blOf, strsOf, dkL, Option.map_some, Option.map_none, List.map_cons, List.map_nil, List.getElem?_cons_succ, List.getElem?_cons_zero, List.set_cons_succ, List.set_cons_zero, List.cons_append, List.nil_append, List.length_cons, List.length_nil, Nat.reduceSub, List.reduceReplicate, List.replicate_succ, List.replicate_zero, true_and, and_true, if_true, if_false, Nat.reduceAdd, reduceCtorEq, Nat.zero_add, List.append_nil, ite_true, ite_false, Bool.false_eq_true, Bool.true_eq_false, Nat.reduceMul, Bool.and_true, Bool.true_and, Bool.not_true, Bool.not_false, List.all_cons, List.all_nil]
        refine ⟨by rw [sizeLine_eq]; omega, hn3 _ _ (tailR _ μ (fun c hc => ?_) (by rw [List.length_append]; omega) h)⟩
        rcases List.mem_append.mp hc with hc | hc
        · exact hw c hc
        · exact .inr (.inr (v1 c hc))
      · exact skip
    · exact skip
end L3

namespace L3
open PySem PySem.Spec L2
open PyProof.Rows hiding St
set_option autoImplicit false
theorem cutD_le {α : Type} (xs : List α) (lo hi : Option Int) : (cutD xs lo hi).length ≤ xs.length := cutD_len xs lo hi
/-- a text bent at one place -/
theorem st_bent {n : Nat} {w : List Nat} {μ : Mu} {k : KR} {x : KX} (h : StOk (n + 3) μ) (hl : w.length ≤ 900) (hk : ∀ w' μ, w'.length ≤ 2 * w.length + 1 → StOk n μ → k (.v (.str w')) μ) : f_L_bent [.loc 1, .str w] μ k x := by
  simp only [f_L_bent, fnS, inS, Option.map_some, Option.map_none, List.map_cons, List.map_nil, List.getElem?_cons_succ, List.getElem?_cons_zero, List.set_cons_succ, List.set_cons_zero, List.cons_append, List.nil_append, List.length_cons, List.length_nil, Nat.reduceSub, List.reduceReplicate, List.replicate_succ, List.replicate_zero, true_and, and_true, if_true, if_false, Nat.reduceAdd, reduceCtorEq, Nat.zero_add, List.append_nil, ite_true, ite_false, Bool.false_eq_true, Bool.true_eq_false, Nat.reduceMul, Bool.and_true, Bool.true_and, Bool.not_true, Bool.not_false, List.all_cons, List.all_nil]; unfold s_L_bent
  refine seq_step fun next hn => ?_; simp only [fnS, inS, sNext, sRet, sRetO, sRetN, sIf, sSet, sSetV, sApp, sFrz, sCell, sPar, sPar3, sTgt, sFor, sWhile, sPut, sTry, sRaise, sExpr, sBrk, sCnt, eName, eC, eOp, eTup, eLst, aNil, aCons, aStar, eIf, eAnd, eOr, eNot, tB, L3.b1, tTru, tAnd', tOr', tNot', eGet, eSl, oNone, oSome, eCall, eFn, iAny, walked, iR1, iR2, iEn, iZp, gN, gTup', gCons', gNil', eLc, wipeD, tYes', eJoin, eSplit, eRepl, eDct, pSem, ePop0, eDZ, eMake, eFld, eFldO, sFldO, eProp, eMeth, eNeg, eRNe, eCh, Rv.d, tru, D.dk, getD', getL, atD, atS, asL, asK, seqOf, slD, cLen, lenD, cBools, cInt1, cBool1, cAbs, cMin2, cMax2, cList, cTuple, cIsi, tyN, cLenO, xNo, vw, D.cmp, cmpL, D.dep, depL, deq, deqL, D.isN, D.noCst, memD, opAdd, opSub, opMul, opMul', opDiv, opMod, opPow, opI2, opB2, opOrd, opLt, opLe, opGt, opGe, opEq, opNe, opIsN, opNotN, opIn, opNotIn, noOwn, Rv.own, lookF, blOf, strsOf, dkL, Option.map_some, Option.map_none, List.map_cons, List.map_nil, List.getElem?_cons_succ, List.getElem?_cons_zero, List.set_cons_succ, List.set_cons_zero, List.cons_append, List.nil_append, List.length_cons, List.length_nil, Nat.reduceSub, List.reduceReplicate, List.replicate_succ, List.replicate_zero, true_and, and_true, if_true, if_false, Nat.reduceAdd, reduceCtorEq, Nat.zero_add, List.append_nil, ite_true, ite_false, Bool.false_eq_true, Bool.true_eq_false, Nat.reduceMul, Bool.and_true, Bool.true_and, Bool.not_true, Bool.not_false, List.all_cons, List.all_nil]
  refine st_take (h.le (by omega : (n + 2) + 1 ≤ _)) (by omega) (by omega) fun a μ a0 a1 h => ?_
  try simp only [fnS, inS, sNext, sRet, sRetO, sRetN, sIf, sSet, sSetV, sApp, sFrz, sCell, sPar, sPar3, sTgt, sFor, sWhile, sPut, sTry, sRaise, sExpr, sBrk, sCnt, eName, eC, eOp, eTup, eLst, aNil, aCons, aStar, eIf, eAnd, eOr, eNot, tB, L3.b1, tTru, tAnd', tOr', tNot', eGet, eSl, oNone, oSome, eCall, eFn, iAny, walked, iR1, iR2, iEn, iZp, gN, gTup', gCons', gNil', eLc, wipeD, tYes', eJoin, eSplit, eRepl, eDct, pSem, ePop0, eDZ, eMake, eFld, eFldO, sFldO, eProp, eMeth, eNeg, eRNe, eCh, Rv.d, tru, D.dk, getD', getL, atD, atS, asL, asK, seqOf, slD, cLen, lenD, cBools, cInt1, cBool1, cAbs, cMin2, cMax2, cList, cTuple, cIsi, tyN, cLenO, xNo, vw, D.cmp, cmpL, D.dep, depL, deq, deqL, D.isN, D.noCst, memD, opAdd, opSub, opMul, opMul', opDiv, opMod, opPow, opI2, opB2, opOrd, opLt, opLe, opGt, opGe, opEq, opNe, opIsN, opNotN, opIn, opNotIn, noOwn, Rv.own, lookF, blOf, strsOf, dkL, Option.map_some, Option.map_none, List.map_cons, List.map_nil, List.getElem?_cons_succ, List.getElem?_cons_zero, List.set_cons_succ, List.set_cons_zero, List.cons_append, List.nil_append, List.length_cons, List.length_nil, Nat.reduceSub, List.reduceReplicate, List.replicate_succ, List.replicate_zero, true_and, and_true, if_true, if_false, Nat.reduceAdd, reduceCtorEq, Nat.zero_add, List.append_nil, ite_true, ite_false, Bool.false_eq_true, Bool.true_eq_false, Nat.reduceMul, Bool.and_true, Bool.true_and, Bool.not_true, Bool.not_false, List.all_cons, List.all_nil]
  refine st_take (h.le (by omega : (n + 1) + 1 ≤ _)) (by omega) (by omega) fun v μ v0 v1 h => ?_
  refine hn _ _ ?_
  clear hn next
  refine seq_step fun next hn => ?_; simp only [fnS, inS, sNext, sRet, sRetO, sRetN, sIf, sSet, sSetV, sApp, sFrz, sCell, sPar, sPar3, sTgt, sFor, sWhile, sPut, sTry, sRaise, sExpr, sBrk, sCnt, eName, eC, eOp, eTup, eLst, aNil, aCons, aStar, eIf, eAnd, eOr, eNot, tB, L3.b1, tTru, tAnd', tOr', tNot', eGet, eSl, oNone, oSome, eCall, eFn, iAny, walked, iR1, iR2, iEn, iZp, gN, gTup', gCons', gNil', eLc, wipeD, tYes', eJoin, eSplit, eRepl, eDct, pSem, ePop0, eDZ, eMake, eFld, eFldO, sFldO, eProp, eMeth, eNeg, eRNe, eCh, Rv.d, tru, D.dk, getD', getL, atD, atS, asL, asK, seqOf, slD, cLen, lenD, cBools, cInt1, cBool1, cAbs, cMin2, cMax2, cList, cTuple, cIsi, tyN, cLenO, xNo, vw, D.cmp, cmpL, D.dep, depL, deq, deqL, D.isN, D.noCst, memD, opAdd, opSub, opMul, opMul', opDiv, opMod, opPow, opI2, opB2, opOrd, opLt, opLe, opGt, opGe, opEq, opNe, opIsN, opNotN, opIn, opNotIn, noOwn, Rv.own, lookF, blOf, strsOf, dkL, Option.map_some, Option.map_none, List.map_cons, List.map_nil, List.getElem?_cons_succ, List.getElem?_cons_zero, List.set_cons_succ, List.set_cons_zero, List.cons_append, List.nil_append, List.length_cons, List.length_nil, Nat.reduceSub, List.reduceReplicate, List.replicate_succ, List.replicate_zero, true_and, and_true, if_true, if_false, Nat.reduceAdd, reduceCtorEq, Nat.zero_add, List.append_nil, ite_true, ite_false, Bool.false_eq_true, Bool.true_eq_false, Nat.reduceMul, Bool.and_true, Bool.true_and, Bool.not_true, Bool.not_false, List.all_cons, List.all_nil]
  refine ⟨by rw [sizeLine_eq]; decide, st_pickL h (by simp) (by simp) fun c μ hc h => ?_⟩
  obtain ⟨sg, rfl, hsg⟩ : ∃ sg : List Nat, c = .str sg ∧ sg.length ≤ 1 := by
    simp only [List.mem_cons, List.not_mem_nil, or_false] at hc
    rcases hc with rfl | rfl | rfl | rfl | rfl | rfl | rfl | rfl | rfl | rfl | rfl <;> exact ⟨_, rfl, by simp⟩
  refine hn _ _ ?_
  clear hn next
  try simp only [fnS, inS, sNext, sRet, sRetO, sRetN, sIf, sSet, sSetV, sApp, sFrz, sCell, sPar, sPar3, sTgt, sFor, sWhile, sPut, sTry, sRaise, sExpr, sBrk, sCnt, eName, eC, eOp, eTup, eLst, aNil, aCons, aStar, eIf, eAnd, eOr, eNot, tB, L3.b1, tTru, tAnd', tOr', tNot', eGet, eSl, oNone, oSome, eCall, eFn, iAny, walked, iR1, iR2, iEn, iZp, gN, gTup', gCons', gNil', eLc, wipeD, tYes', eJoin, eSplit, eRepl, eDct, pSem, ePop0, eDZ, eMake, eFld, eFldO, sFldO, eProp, eMeth, eNeg, eRNe, eCh, Rv.d, tru, D.dk, getD', getL, atD, atS, asL, asK, seqOf, slD, cLen, lenD, cBools, cInt1, cBool1, cAbs, cMin2, cMax2, cList, cTuple, cIsi, tyN, cLenO, xNo, vw, D.cmp, cmpL, D.dep, depL, deq, deqL, D.isN, D.noCst, memD, opAdd, opSub, opMul, opMul', opDiv, opMod, opPow, opI2, opB2, opOrd, opLt, opLe, opGt, opGe, opEq, opNe, opIsN, opNotN, opIn, opNotIn, noOwn, Rv.own, lookF, blOf, strsOf, dkL, Option.map_some, Option.map_none, List.map_cons, List.map_nil, List.getElem?_cons_succ, List.getElem?_cons_zero, List.set_cons_succ, List.set_cons_zero, List.cons_append, List.nil_append, List.length_cons, List.length_nil, Nat.reduceSub, List.reduceReplicate, List.replicate_succ, List.replicate_zero, true_and, and_true, if_true, if_false, Nat.reduceAdd, reduceCtorEq, Nat.zero_add, List.append_nil, ite_true, ite_false, Bool.false_eq_true, Bool.true_eq_false, Nat.reduceMul, Bool.and_true, Bool.true_and, Bool.not_true, Bool.not_false, List.all_cons, List.all_nil]
  refine ⟨by rw [sizeLine_eq]; decide, ?_⟩
  obtain ⟨y, hy, hy1⟩ : ∃ y : List Nat, atI [D.str [], D.str sg, D.str sg] v = some (.str y) ∧ y.length ≤ 1 := by
    obtain ⟨j, rfl⟩ := Int.eq_ofNat_of_zero_le v0
    match j, v1 with
    | 0, _ => exact ⟨[], rfl, by simp⟩
    | 1, _ => exact ⟨sg, rfl, hsg⟩
    | 2, _ => exact ⟨sg, rfl, hsg⟩
    | j + 3, q => omega
  rw [hy]
  try simp only [fnS, inS, sNext, sRet, sRetO, sRetN, sIf, sSet, sSetV, sApp, sFrz, sCell, sPar, sPar3, sTgt, sFor, sWhile, sPut, sTry, sRaise, sExpr, sBrk, sCnt, eName, eC, eOp, eTup, eLst, aNil, aCons, aStar, eIf, eAnd, eOr, eNot, tB, L3.b1, tTru, tAnd', tOr', tNot', eGet, eSl, oNone, oSome, eCall, eFn, iAny, walked, iR1, iR2, iEn, iZp, gN, gTup', gCons', gNil', eLc, wipeD, tYes', eJoin, eSplit, eRepl, eDct, pSem, ePop0, eDZ, eMake, eFld, eFldO, sFldO, eProp, eMeth, eNeg, eRNe, eCh, Rv.d, tru, D.dk, getD', getL, atD, atS, asL, asK, seqOf, slD, cLen, lenD, cBools, cInt1, cBool1, cAbs, cMin2, cMax2, cList, cTuple, cIsi, tyN, cLenO, xNo, vw, D.cmp, cmpL, D.dep, depL, deq, deqL, D.isN, D.noCst, memD, opAdd, opSub, opMul, opMul', opDiv, opMod, opPow, opI2, opB2, opOrd, opLt, opLe, opGt, opGe, opEq, opNe, opIsN, opNotN, opIn, opNotIn, noOwn, Rv.own, lookF, blOf, strsOf, dkL, Option.map_some, Option.map_none, List.map_cons, List.map_nil, List.getElem?_cons_succ, List.getElem?_cons_zero, List.set_cons_succ, List.set_cons_zero, List.cons_append, List.nil_append, List.length_cons, List.length_nil, Nat.reduceSub, List.reduceReplicate, List.replicate_succ, List.replicate_zero, true_and, and_true, if_true, if_false, Nat.reduceAdd, reduceCtorEq, Nat.zero_add, List.append_nil, ite_true, ite_false, Bool.false_eq_true, Bool.true_eq_false, Nat.reduceMul, Bool.and_true, Bool.true_and, Bool.not_true, Bool.not_false, List.all_cons, List.all_nil]
  have l1 := cutD_len w none (some a)
  have l2 := cutD_len w (some (a + if (!v == 1) = true then 1 else 0)) none
  refine ⟨by rw [sizeLine_eq]; omega, by decide, by rw [List.length_append, sizeLine_eq]; omega, hk _ _ (by rw [List.length_append, List.length_append]; omega) h⟩
theorem sz {n : Nat} (h : n ≤ 10000) : n ≤ sizeLine := by rw [sizeLine_eq]; omega
/-- what may be drawn -/
def Odd (d : D) : Prop := d = .non ∨ d = .int 5 ∨ d = .bl true ∨ d = .lst [] ∨ d = .tup [] ∨ d = .dct [] [] ∨ d = .lst [.str [46]] ∨ d = .tup [.str [46]] ∨ d = .lst [.str [97], .str [46]]
def Drawn (d : D) : Prop := Odd d ∨ ∃ w : List Nat, d = .str w ∧ w.length ≤ 2000
theorem Drawn.s {w : List Nat} (h : w.length ≤ 2000) : Drawn (.str w) := .inr ⟨w, rfl, h⟩
theorem rep_len (s : List Nat) (n : Nat) : ((List.replicate n s).flatten).length = n * s.length := by simp
theorem st_drawn {n : Nat} {μ : Mu} {k : KR} {x : KX} (h : StOk (n + 300) μ) (hk : ∀ d μ, Drawn d → StOk n μ → k (.v d) μ) : f_L_drawn [.loc 1] μ k x := by
  simp only [f_L_drawn, fnS, inS, Option.map_some, Option.map_none, List.map_cons, List.map_nil, List.getElem?_cons_succ, List.getElem?_cons_zero, List.set_cons_succ, List.set_cons_zero, List.cons_append, List.nil_append, List.length_cons, List.length_nil, Nat.reduceSub, List.reduceReplicate, List.replicate_succ, List.replicate_zero, true_and, and_true, if_true, if_false, Nat.reduceAdd, reduceCtorEq, Nat.zero_add, List.append_nil, ite_true, ite_false, Bool.false_eq_true, Bool.true_eq_false, Nat.reduceMul, Bool.and_true, Bool.true_and, Bool.not_true, Bool.not_false, List.all_cons, List.all_nil]; unfold s_L_drawn
  refine seq_step fun next hn => ?_; simp only [fnS, inS, sNext, sRet, sRetO, sRetN, sIf, sSet, sSetV, sApp, sFrz, sCell, sPar, sPar3, sTgt, sFor, sWhile, sPut, sTry, sRaise, sExpr, sBrk, sCnt, eName, eC, eOp, eTup, eLst, aNil, aCons, aStar, eIf, eAnd, eOr, eNot, tB, L3.b1, tTru, tAnd', tOr', tNot', eGet, eSl, oNone, oSome, eCall, eFn, iAny, walked, iR1, iR2, iEn, iZp, gN, gTup', gCons', gNil', eLc, wipeD, tYes', eJoin, eSplit, eRepl, eDct, pSem, ePop0, eDZ, eMake, eFld, eFldO, sFldO, eProp, eMeth, eNeg, eRNe, eCh, Rv.d, tru, D.dk, getD', getL, atD, atS, asL, asK, seqOf, slD, cLen, lenD, cBools, cInt1, cBool1, cAbs, cMin2, cMax2, cList, cTuple, cIsi, tyN, cLenO, xNo, vw, D.cmp, cmpL, D.dep, depL, deq, deqL, D.isN, D.noCst, memD, opAdd, opSub, opMul, opMul', opDiv, opMod, opPow, opI2, opB2, opOrd, opLt, opLe, opGt, opGe, opEq, opNe, opIsN, opNotN, opIn, opNotIn, noOwn, Rv.own, lookF, blOf, strsOf, dkL, Option.map_some, Option.map_none, List.map_cons, List.map_nil, List.getElem?_cons_succ, List.getElem?_cons_zero, List.set_cons_succ, List.set_cons_zero, List.cons_append, List.nil_append, List.length_cons, List.length_nil, Nat.reduceSub, List.reduceReplicate, List.replicate_succ, List.replicate_zero, true_and, and_true, if_true, if_false, Nat.reduceAdd, reduceCtorEq, Nat.zero_add, List.append_nil, ite_true, ite_false, Bool.false_eq_true, Bool.true_eq_false, Nat.reduceMul, Bool.and_true, Bool.true_and, Bool.not_true, Bool.not_false, List.all_cons, List.all_nil]
  refine st_take (h.le (by omega : (n + 299) + 1 ≤ _)) (by omega) (by omega) fun a μ a0 a1 h => ?_
  try simp only [fnS, inS, sNext, sRet, sRetO, sRetN, sIf, sSet, sSetV, sApp, sFrz, sCell, sPar, sPar3, sTgt, sFor, sWhile, sPut, sTry, sRaise, sExpr, sBrk, sCnt, eName, eC, eOp, eTup, eLst, aNil, aCons, aStar, eIf, eAnd, eOr, eNot, tB, L3.b1, tTru, tAnd', tOr', tNot', eGet, eSl, oNone, oSome, eCall, eFn, iAny, walked, iR1, iR2, iEn, iZp, gN, gTup', gCons', gNil', eLc, wipeD, tYes', eJoin, eSplit, eRepl, eDct, pSem, ePop0, eDZ, eMake, eFld, eFldO, sFldO, eProp, eMeth, eNeg, eRNe, eCh, Rv.d, tru, D.dk, getD', getL, atD, atS, asL, asK, seqOf, slD, cLen, lenD, cBools, cInt1, cBool1, cAbs, cMin2, cMax2, cList, cTuple, cIsi, tyN, cLenO, xNo, vw, D.cmp, cmpL, D.dep, depL, deq, deqL, D.isN, D.noCst, memD, opAdd, opSub, opMul, opMul', opDiv, opMod, opPow, opI2, opB2, opOrd, opLt, opLe, opGt, opGe, opEq, opNe, opIsN, opNotN, opIn, opNotIn, noOwn, Rv.own, lookF, blOf, strsOf, dkL, Option.map_some, Option.map_none, List.map_cons, List.map_nil, List.getElem?_cons_succ, List.getElem?_cons_zero, List.set_cons_succ, List.set_cons_zero, List.cons_append, List.nil_append, List.length_cons, List.length_nil, Nat.reduceSub, List.reduceReplicate, List.replicate_succ, List.replicate_zero, true_and, and_true, if_true, if_false, Nat.reduceAdd, reduceCtorEq, Nat.zero_add, List.append_nil, ite_true, ite_false, Bool.false_eq_true, Bool.true_eq_false, Nat.reduceMul, Bool.and_true, Bool.true_and, Bool.not_true, Bool.not_false, List.all_cons, List.all_nil]
  refine st_ribbon (h.le (by omega : (n + 99) + 200 ≤ _)) fun w μ w0 w1 h => ?_
  refine hn _ _ ?_
  clear hn next
  refine seq_step fun next hn => ?_; simp only [fnS, inS, sNext, sRet, sRetO, sRetN, sIf, sSet, sSetV, sApp, sFrz, sCell, sPar, sPar3, sTgt, sFor, sWhile, sPut, sTry, sRaise, sExpr, sBrk, sCnt, eName, eC, eOp, eTup, eLst, aNil, aCons, aStar, eIf, eAnd, eOr, eNot, tB, L3.b1, tTru, tAnd', tOr', tNot', eGet, eSl, oNone, oSome, eCall, eFn, iAny, walked, iR1, iR2, iEn, iZp, gN, gTup', gCons', gNil', eLc, wipeD, tYes', eJoin, eSplit, eRepl, eDct, pSem, ePop0, eDZ, eMake, eFld, eFldO, sFldO, eProp, eMeth, eNeg, eRNe, eCh, Rv.d, tru, D.dk, getD', getL, atD, atS, asL, asK, seqOf, slD, cLen, lenD, cBools, cInt1, cBool1, cAbs, cMin2, cMax2, cList, cTuple, cIsi, tyN, cLenO, xNo, vw, D.cmp, cmpL, D.dep, depL, deq, deqL, D.isN, D.noCst, memD, opAdd, opSub, opMul, opMul', opDiv, opMod, opPow, opI2, opB2, opOrd, opLt, opLe, opGt, opGe, opEq, opNe, opIsN, opNotN, opIn, opNotIn, noOwn, Rv.own, lookF, blOf, strsOf, dkL, Option.map_some, Option.map_none, List.map_cons, List.map_nil, List.getElem?_cons_succ, List.getElem?_cons_zero, List.set_cons_succ, List.set_cons_zero, List.cons_append, List.nil_append, List.length_cons, List.length_nil, Nat.reduceSub, List.reduceReplicate, List.replicate_succ, List.replicate_zero, true_and, and_true, if_true, if_false, Nat.reduceAdd, reduceCtorEq, Nat.zero_add, List.append_nil, ite_true, ite_false, Bool.false_eq_true, Bool.true_eq_false, Nat.reduceMul, Bool.and_true, Bool.true_and, Bool.not_true, Bool.not_false, List.all_cons, List.all_nil]
  refine ⟨by decide, ite2 (fun _ => ?_) (fun _ => ?_)⟩
  · refine ⟨sz (by decide), sz (by decide), sz (by decide), sz (by decide), sz (by decide), sz (by decide), ?_⟩
    refine st_pickL (h.le (by omega : (n + 1) + 1 ≤ _)) (by simp) (by simp) fun c μ hc h => hk _ _ ?_ (h.le (by omega))
    simp only [List.mem_cons, List.not_mem_nil, or_false] at hc
    rcases hc with rfl | rfl | rfl | rfl | rfl | rfl | rfl | rfl | rfl | rfl | rfl
    all_goals first
      | exact .s (by decide)
      | exact .inl (.inl rfl)
      | exact .inl (.inr (.inl rfl))
      | exact .inl (.inr (.inr (.inl rfl)))
      | exact .inl (.inr (.inr (.inr (.inl rfl))))
      | exact .inl (.inr (.inr (.inr (.inr (.inl rfl)))))
      | exact .inl (.inr (.inr (.inr (.inr (.inr (.inl rfl))))))
      | exact .inl (.inr (.inr (.inr (.inr (.inr (.inr (.inl rfl)))))))
      | exact .inl (.inr (.inr (.inr (.inr (.inr (.inr (.inr (.inl rfl))))))))
      | exact .inl (.inr (.inr (.inr (.inr (.inr (.inr (.inr (.inr rfl))))))))
  refine hn _ _ ?_
  clear hn next
  refine seq_step fun next hn => ?_; simp only [fnS, inS, sNext, sRet, sRetO, sRetN, sIf, sSet, sSetV, sApp, sFrz, sCell, sPar, sPar3, sTgt, sFor, sWhile, sPut, sTry, sRaise, sExpr, sBrk, sCnt, eName, eC, eOp, eTup, eLst, aNil, aCons, aStar, eIf, eAnd, eOr, eNot, tB, L3.b1, tTru, tAnd', tOr', tNot', eGet, eSl, oNone, oSome, eCall, eFn, iAny, walked, iR1, iR2, iEn, iZp, gN, gTup', gCons', gNil', eLc, wipeD, tYes', eJoin, eSplit, eRepl, eDct, pSem, ePop0, eDZ, eMake, eFld, eFldO, sFldO, eProp, eMeth, eNeg, eRNe, eCh, Rv.d, tru, D.dk, getD', getL, atD, atS, asL, asK, seqOf, slD, cLen, lenD, cBools, cInt1, cBool1, cAbs, cMin2, cMax2, cList, cTuple, cIsi, tyN, cLenO, xNo, vw, D.cmp, cmpL, D.dep, depL, deq, deqL, D.isN, D.noCst, memD, opAdd, opSub, opMul, opMul', opDiv, opMod, opPow, opI2, opB2, opOrd, opLt, opLe, opGt, opGe, opEq, opNe, opIsN, opNotN, opIn, opNotIn, noOwn, Rv.own, lookF, blOf, strsOf, dkL, Option.map_some, Option.map_none, List.map_cons, List.map_nil, List.getElem?_cons_succ, List.getElem?_cons_zero, List.set_cons_succ, List.set_cons_zero, List.cons_append, List.nil_append, List.length_cons, List.length_nil, Nat.reduceSub, List.reduceReplicate, List.replicate_succ, List.replicate_zero, true_and, and_true, if_true, if_false, Nat.reduceAdd, reduceCtorEq, Nat.zero_add, List.append_nil, ite_true, ite_false, Bool.false_eq_true, Bool.true_eq_false, Nat.reduceMul, Bool.and_true, Bool.true_and, Bool.not_true, Bool.not_false, List.all_cons, List.all_nil]
  refine ⟨by decide, ite2 (fun _ => ?_) (fun _ => ?_)⟩
  · refine ⟨sz (by decide), ?_⟩
    refine st_pickL (h.le (by omega : (n + 2) + 1 ≤ _)) (by simp) (by simp) fun c μ hc h => ?_
    obtain ⟨sg, rfl, hsg⟩ : ∃ sg : List Nat, c = .str sg ∧ sg.length ≤ 4 := by
      simp only [List.mem_cons, List.not_mem_nil, or_false] at hc
      rcases hc with rfl | rfl | rfl | rfl | rfl <;> exact ⟨_, rfl, by simp⟩
    simp only [fnS, inS, sNext, sRet, sRetO, sRetN, sIf, sSet, sSetV, sApp, sFrz, sCell, sPar, sPar3, sTgt, sFor, sWhile, sPut, sTry, sRaise, sExpr, sBrk, sCnt, eName, eC, eOp, eTup, eLst, aNil, aCons, aStar, eIf, eAnd, eOr, eNot, tB, L3.b1, tTru, tAnd', tOr', tNot', eGet, eSl, oNone, oSome, eCall, eFn, iAny, walked, iR1, iR2, iEn, iZp, gN, gTup', gCons', gNil', eLc, wipeD, tYes', eJoin, eSplit, eRepl, eDct, pSem, ePop0, eDZ, eMake, eFld, eFldO, sFldO, eProp, eMeth, eNeg, eRNe, eCh, Rv.d, tru, D.dk, getD', getL, atD, atS, asL, asK, seqOf, slD, cLen, lenD, cBools, cInt1, cBool1, cAbs, cMin2, cMax2, cList, cTuple, cIsi, tyN, cLenO, xNo, vw, D.cmp, cmpL, D.dep, depL, deq, deqL, D.isN, D.noCst, memD, opAdd, opSub, opMul, opMul', opDiv, opMod, opPow, opI2, opB2, opOrd, opLt, opLe, opGt, opGe, opEq, opNe, opIsN, opNotN, opIn, opNotIn, noOwn, Rv.own, lookF, blOf, strsOf, dkL, Option.map_some, Option.map_none, List.map_cons, List.map_nil, List.getElem?_cons_succ, List.getElem?_cons_zero, List.set_cons_succ, List.set_cons_zero, List.cons_append, List.nil_append, List.length_cons, List.length_nil, Nat.reduceSub, List.reduceReplicate, List.replicate_succ, List.replicate_zero, true_and, and_true, if_true, if_false, Nat.reduceAdd, reduceCtorEq, Nat.zero_add, List.append_nil, ite_true, ite_false, Bool.false_eq_true, Bool.true_eq_false, Nat.reduceMul, Bool.and_true, Bool.true_and, Bool.not_true, Bool.not_false, List.all_cons, List.all_nil]
    refine ⟨by decide, by decide, sz (by have : (402 : Int).toNat = 402 := rfl; rw [this]; omega), ?_⟩
    refine st_take (h.le (by omega : (n + 1) + 1 ≤ _)) (by omega) (by omega) fun b μ b0 b1 h => ?_
    try simp only [fnS, inS, sNext, sRet, sRetO, sRetN, sIf, sSet, sSetV, sApp, sFrz, sCell, sPar, sPar3, sTgt, sFor, sWhile, sPut, sTry, sRaise, sExpr, sBrk, sCnt, eName, eC, eOp, eTup, eLst, aNil, aCons, aStar, eIf, eAnd, eOr, eNot, tB, L3.b1, tTru, tAnd', tOr', tNot', eGet, eSl, oNone, oSome, eCall, eFn, iAny, walked, iR1, iR2, iEn, iZp, gN, gTup', gCons', gNil', eLc, wipeD, tYes', eJoin, eSplit, eRepl, eDct, pSem, ePop0, eDZ, eMake, eFld, eFldO, sFldO, eProp, eMeth, eNeg, eRNe, eCh, Rv.d, tru, D.dk, getD', getL, atD, atS, asL, asK, seqOf, slD, cLen, lenD, cBools, cInt1, cBool1, cAbs, cMin2, cMax2, cList, cTuple, cIsi, tyN, cLenO, xNo, vw, D.cmp, cmpL, D.dep, depL, deq, deqL, D.isN, D.noCst, memD, opAdd, opSub, opMul, opMul', opDiv, opMod, opPow, opI2, opB2, opOrd, opLt, opLe, opGt, opGe, opEq, opNe, opIsN, opNotN, opIn, opNotIn, noOwn, Rv.own, lookF, blOf, strsOf, dkL, Option.map_some, Option.map_none, List.map_cons, List.map_nil, List.getElem?_cons_succ, List.getElem?_cons_zero, List.set_cons_succ, List.set_cons_zero, List.cons_append, List.nil_append, List.length_cons, List.length_nil, Nat.reduceSub, List.reduceReplicate, List.replicate_succ, List.replicate_zero, true_and, and_true, if_true, if_false, Nat.reduceAdd, reduceCtorEq, Nat.zero_add, List.append_nil, ite_true, ite_false, Bool.false_eq_true, Bool.true_eq_false, Nat.reduceMul, Bool.and_true, Bool.true_and, Bool.not_true, Bool.not_false, List.all_cons, List.all_nil]
    refine hk _ _ (.s ?_) (h.le (by omega))
    refine Nat.le_trans (cutD_len _ _ _) ?_
    rw [rep_len]
    have : (402 : Int).toNat = 402 := rfl
    rw [this]; omega
  refine hn _ _ ?_
  clear hn next
  refine seq_step fun next hn => ?_; simp only [fnS, inS, sNext, sRet, sRetO, sRetN, sIf, sSet, sSetV, sApp, sFrz, sCell, sPar, sPar3, sTgt, sFor, sWhile, sPut, sTry, sRaise, sExpr, sBrk, sCnt, eName, eC, eOp, eTup, eLst, aNil, aCons, aStar, eIf, eAnd, eOr, eNot, tB, L3.b1, tTru, tAnd', tOr', tNot', eGet, eSl, oNone, oSome, eCall, eFn, iAny, walked, iR1, iR2, iEn, iZp, gN, gTup', gCons', gNil', eLc, wipeD, tYes', eJoin, eSplit, eRepl, eDct, pSem, ePop0, eDZ, eMake, eFld, eFldO, sFldO, eProp, eMeth, eNeg, eRNe, eCh, Rv.d, tru, D.dk, getD', getL, atD, atS, asL, asK, seqOf, slD, cLen, lenD, cBools, cInt1, cBool1, cAbs, cMin2, cMax2, cList, cTuple, cIsi, tyN, cLenO, xNo, vw, D.cmp, cmpL, D.dep, depL, deq, deqL, D.isN, D.noCst, memD, opAdd, opSub, opMul, opMul', opDiv, opMod, opPow, opI2, opB2, opOrd, opLt, opLe, opGt, opGe, opEq, opNe, opIsN, opNotN, opIn, opNotIn, noOwn, Rv.own, lookF, blOf, strsOf, dkL, Option.map_some, Option.map_none, List.map_cons, List.map_nil, List.getElem?_cons_succ, List.getElem?_cons_zero, List.set_cons_succ, List.set_cons_zero, List.cons_append, List.nil_append, List.length_cons, List.length_nil, Nat.reduceSub, List.reduceReplicate, List.replicate_succ, List.replicate_zero, true_and, and_true, if_true, if_false, Nat.reduceAdd, reduceCtorEq, Nat.zero_add, List.append_nil, ite_true, ite_false, Bool.false_eq_true, Bool.true_eq_false, Nat.reduceMul, Bool.and_true, Bool.true_and, Bool.not_true, Bool.not_false, List.all_cons, List.all_nil]
  refine ite2 (fun _ => ?_) (fun _ => ?_)
  · refine st_bent (h.le (by omega : n + 3 ≤ _)) (by omega) fun w' μ hl h => hk _ _ (.s (by omega)) h
  refine hn _ _ ?_
  clear hn next
  simp only [fnS, inS, sNext, sRet, sRetO, sRetN, sIf, sSet, sSetV, sApp, sFrz, sCell, sPar, sPar3, sTgt, sFor, sWhile, sPut, sTry, sRaise, sExpr, sBrk, sCnt, eName, eC, eOp, eTup, eLst, aNil, aCons, aStar, eIf, eAnd, eOr, eNot, tB, L3.b1, tTru, tAnd', tOr', tNot', eGet, eSl, oNone, oSome, eCall, eFn, iAny, walked, iR1, iR2, iEn, iZp, gN, gTup', gCons', gNil', eLc, wipeD, tYes', eJoin, eSplit, eRepl, eDct, pSem, ePop0, eDZ, eMake, eFld, eFldO, sFldO, eProp, eMeth, eNeg, eRNe, eCh, Rv.d, tru, D.dk, getD', getL, atD, atS, asL, asK, seqOf, slD, cLen, lenD, cBools, cInt1, cBool1, cAbs, cMin2, cMax2, cList, cTuple, cIsi, tyN, cLenO, xNo, vw, D.cmp, cmpL, D.dep, depL, deq, deqL, D.isN, D.noCst, memD, opAdd, opSub, opMul, opMul', opDiv, opMod, opPow, opI2, opB2, opOrd, opLt, opLe, opGt, opGe, opEq, opNe, opIsN, opNotN, opIn, opNotIn, noOwn, Rv.own, lookF, blOf, strsOf, dkL, Option.map_some, Option.map_none, List.map_cons, List.map_nil, List.getElem?_cons_succ, List.getElem?_cons_zero, List.set_cons_succ, List.set_cons_zero, List.cons_append, List.nil_append, List.length_cons, List.length_nil, Nat.reduceSub, List.reduceReplicate, List.replicate_succ, List.replicate_zero, true_and, and_true, if_true, if_false, Nat.reduceAdd, reduceCtorEq, Nat.zero_add, List.append_nil, ite_true, ite_false, Bool.false_eq_true, Bool.true_eq_false, Nat.reduceMul, Bool.and_true, Bool.true_and, Bool.not_true, Bool.not_false, List.all_cons, List.all_nil]
  refine ⟨by decide, ite2 (fun _ => ?_) (fun _ => ?_)⟩
  · refine st_bent (h.le (by omega : (n + 3) + 3 ≤ _)) (by omega) fun w' μ hl h => ?_
    try simp only [fnS, inS, sNext, sRet, sRetO, sRetN, sIf, sSet, sSetV, sApp, sFrz, sCell, sPar, sPar3, sTgt, sFor, sWhile, sPut, sTry, sRaise, sExpr, sBrk, sCnt, eName, eC, eOp, eTup, eLst, aNil, aCons, aStar, eIf, eAnd, eOr, eNot, tB, L3.b1, tTru, tAnd', tOr', tNot', eGet, eSl, oNone, oSome, eCall, eFn, iAny, walked, iR1, iR2, iEn, iZp, gN, gTup', gCons', gNil', eLc, wipeD, tYes', eJoin, eSplit, eRepl, eDct, pSem, ePop0, eDZ, eMake, eFld, eFldO, sFldO, eProp, eMeth, eNeg, eRNe, eCh, Rv.d, tru, D.dk, getD', getL, atD, atS, asL, asK, seqOf, slD, cLen, lenD, cBools, cInt1, cBool1, cAbs, cMin2, cMax2, cList, cTuple, cIsi, tyN, cLenO, xNo, vw, D.cmp, cmpL, D.dep, depL, deq, deqL, D.isN, D.noCst, memD, opAdd, opSub, opMul, opMul', opDiv, opMod, opPow, opI2, opB2, opOrd, opLt, opLe, opGt, opGe, opEq, opNe, opIsN, opNotN, opIn, opNotIn, noOwn, Rv.own, lookF, blOf, strsOf, dkL, Option.map_some, Option.map_none, List.map_cons, List.map_nil, List.getElem?_cons_succ, List.getElem?_cons_zero, List.set_cons_succ, List.set_cons_zero, List.cons_append, List.nil_append, List.length_cons, List.length_nil, Nat.reduceSub, List.reduceReplicate, List.replicate_succ, List.replicate_zero, true_and, and_true, if_true, if_false, Nat.reduceAdd, reduceCtorEq, Nat.zero_add, List.append_nil, ite_true, ite_false, Bool.false_eq_true, Bool.true_eq_false, Nat.reduceMul, Bool.and_true, Bool.true_and, Bool.not_true, Bool.not_false, List.all_cons, List.all_nil]
    exact st_bent h (by omega) fun w' μ hl h => hk _ _ (.s (by omega)) h
  · exact hk _ _ (.s (by omega)) (h.le (by omega))
end L3

namespace L3
open PySem PySem.Spec L2
open PyProof.Rows hiding St
set_option autoImplicit false
/-! ### texts and their parts -/
def isSign (c : Nat) : Bool := c == 46 || c == 45
/-- the steps, and the letters behind the last sign -/
def parse : List Nat → List Nat → List (List Nat × Bool) × List Nat
  | acc, [] => ([], acc)
  | acc, c :: r => if isSign c = true then ((acc, c == 46) :: (parse [] r).1, (parse [] r).2) else parse (acc ++ [c]) r
theorem parse_cons (acc : List Nat) (c : Nat) (r : List Nat) : parse acc (c :: r) = if isSign c = true then ((acc, c == 46) :: (parse [] r).1, (parse [] r).2) else parse (acc ++ [c]) r := rfl
def stD (l : List (List Nat × Bool)) : List D := l.map fun p => .tup [.str p.1, .bl p.2]
theorem sign_mem (c : Nat) : decide (c ∈ [46, 45]) = isSign c := by
  simp only [isSign, List.mem_cons, List.not_mem_nil, or_false]
  by_cases h : c = 46 <;> by_cases h' : c = 45 <;> simp [h, h']
theorem eq_dot (c : Nat) : ([c] == [46]) = (c == 46) := by
  by_cases h : c = 46
  · subst h; rfl
  · rw [beq_eq_false_iff_ne.mpr h, beq_eq_false_iff_ne.mpr (fun z => h (by simpa using z))]
theorem p_steps_of {s : List Nat} {μ : Mu} {k : KR} {x : KX} (hl : s.length ≤ 10000) (hk : k (.ol (stD (parse [] s).1)) μ) : f_steps_of [.str s] μ k x := by
  simp only [f_steps_of, fnS, inS, Option.map_some, Option.map_none, List.map_cons, List.map_nil, List.getElem?_cons_succ, List.getElem?_cons_zero, List.set_cons_succ, List.set_cons_zero, List.cons_append, List.nil_append, List.length_cons, List.length_nil, Nat.reduceSub, List.reduceReplicate, List.replicate_succ, List.replicate_zero, true_and, and_true, if_true, if_false, Nat.reduceAdd, reduceCtorEq, Nat.zero_add, List.append_nil, ite_true, ite_false, Bool.false_eq_true, Bool.true_eq_false, Nat.reduceMul, Bool.and_true, Bool.true_and, Bool.not_true, Bool.not_false, List.all_cons, List.all_nil]; unfold s_steps_of
  refine seq_step fun next hn => ?_; simp only [fnS, inS, sNext, sRet, sRetO, sRetN, sIf, sSet, sSetV, sApp, sFrz, sCell, sPar, sPar3, sTgt, sFor, sWhile, sPut, sTry, sRaise, sExpr, sBrk, sCnt, eName, eC, eOp, eTup, eLst, aNil, aCons, aStar, eIf, eAnd, eOr, eNot, tB, L3.b1, tTru, tAnd', tOr', tNot', eGet, eSl, oNone, oSome, eCall, eFn, iAny, walked, iR1, iR2, iEn, iZp, gN, gTup', gCons', gNil', eLc, wipeD, tYes', eJoin, eSplit, eRepl, eDct, pSem, ePop0, eDZ, eMake, eFld, eFldO, sFldO, eProp, eMeth, eNeg, eRNe, eCh, Rv.d, tru, D.dk, getD', getL, atD, atS, asL, asK, seqOf, slD, cLen, lenD, cBools, cInt1, cBool1, cAbs, cMin2, cMax2, cList, cTuple, cIsi, tyN, cLenO, xNo, vw, D.cmp, cmpL, D.dep, depL, deq, deqL, D.isN, D.noCst, memD, opAdd, opSub, opMul, opMul', opDiv, opMod, opPow, opI2, opB2, opOrd, opLt, opLe, opGt, opGe, opEq, opNe, opIsN, opNotN, opIn, opNotIn, noOwn, Rv.own, lookF, blOf, strsOf, dkL, Option.map_some, Option.map_none, List.map_cons, List.map_nil, List.getElem?_cons_succ, List.getElem?_cons_zero, List.set_cons_succ, List.set_cons_zero, List.cons_append, List.nil_append, List.length_cons, List.length_nil, Nat.reduceSub, List.reduceReplicate, List.replicate_succ, List.replicate_zero, true_and, and_true, if_true, if_false, Nat.reduceAdd, reduceCtorEq, Nat.zero_add, List.append_nil, ite_true, ite_false, Bool.false_eq_true, Bool.true_eq_false, Nat.reduceMul, Bool.and_true, Bool.true_and, Bool.not_true, Bool.not_false, List.all_cons, List.all_nil]
  refine ⟨sz (by decide), hn _ _ ?_⟩
  clear hn next
  refine seq_step fun next hn => ?_; simp only [fnS, inS, sNext, sRet, sRetO, sRetN, sIf, sSet, sSetV, sApp, sFrz, sCell, sPar, sPar3, sTgt, sFor, sWhile, sPut, sTry, sRaise, sExpr, sBrk, sCnt, eName, eC, eOp, eTup, eLst, aNil, aCons, aStar, eIf, eAnd, eOr, eNot, tB, L3.b1, tTru, tAnd', tOr', tNot', eGet, eSl, oNone, oSome, eCall, eFn, iAny, walked, iR1, iR2, iEn, iZp, gN, gTup', gCons', gNil', eLc, wipeD, tYes', eJoin, eSplit, eRepl, eDct, pSem, ePop0, eDZ, eMake, eFld, eFldO, sFldO, eProp, eMeth, eNeg, eRNe, eCh, Rv.d, tru, D.dk, getD', getL, atD, atS, asL, asK, seqOf, slD, cLen, lenD, cBools, cInt1, cBool1, cAbs, cMin2, cMax2, cList, cTuple, cIsi, tyN, cLenO, xNo, vw, D.cmp, cmpL, D.dep, depL, deq, deqL, D.isN, D.noCst, memD, opAdd, opSub, opMul, opMul', opDiv, opMod, opPow, opI2, opB2, opOrd, opLt, opLe, opGt, opGe, opEq, opNe, opIsN, opNotN, opIn, opNotIn, noOwn, Rv.own, lookF, blOf, strsOf, dkL, Option.map_some, Option.map_none, List.map_cons, List.map_nil, List.getElem?_cons_succ, List.getElem?_cons_zero, List.set_cons_succ, List.set_cons_zero, List.cons_append, List.nil_append, List.length_cons, List.length_nil, Nat.reduceSub, List.reduceReplicate, List.replicate_succ, List.replicate_zero, true_and, and_true, if_true, if_false, Nat.reduceAdd, reduceCtorEq, Nat.zero_add, List.append_nil, ite_true, ite_false, Bool.false_eq_true, Bool.true_eq_false, Nat.reduceMul, Bool.and_true, Bool.true_and, Bool.not_true, Bool.not_false, List.all_cons, List.all_nil]
  refine hn _ _ ?_
  clear hn next
  refine seq_step fun next hn => ?_; simp only [fnS, inS, sNext, sRet, sRetO, sRetN, sIf, sSet, sSetV, sApp, sFrz, sCell, sPar, sPar3, sTgt, sFor, sWhile, sPut, sTry, sRaise, sExpr, sBrk, sCnt, eName, eC, eOp, eTup, eLst, aNil, aCons, aStar, eIf, eAnd, eOr, eNot, tB, L3.b1, tTru, tAnd', tOr', tNot', eGet, eSl, oNone, oSome, eCall, eFn, iAny, walked, iR1, iR2, iEn, iZp, gN, gTup', gCons', gNil', eLc, wipeD, tYes', eJoin, eSplit, eRepl, eDct, pSem, ePop0, eDZ, eMake, eFld, eFldO, sFldO, eProp, eMeth, eNeg, eRNe, eCh, Rv.d, tru, D.dk, getD', getL, atD, atS, asL, asK, seqOf, slD, cLen, lenD, cBools, cInt1, cBool1, cAbs, cMin2, cMax2, cList, cTuple, cIsi, tyN, cLenO, xNo, vw, D.cmp, cmpL, D.dep, depL, deq, deqL, D.isN, D.noCst, memD, opAdd, opSub, opMul, opMul', opDiv, opMod, opPow, opI2, opB2, opOrd, opLt, opLe, opGt, opGe, opEq, opNe, opIsN, opNotN, opIn, opNotIn, noOwn, Rv.own, lookF, blOf, strsOf, dkL, Option.map_some, Option.map_none, List.map_cons, List.map_nil, List.getElem?_cons_succ, List.getElem?_cons_zero, List.set_cons_succ, List.set_cons_zero, List.cons_append, List.nil_append, List.length_cons, List.length_nil, Nat.reduceSub, List.reduceReplicate, List.replicate_succ, List.replicate_zero, true_and, and_true, if_true, if_false, Nat.reduceAdd, reduceCtorEq, Nat.zero_add, List.append_nil, ite_true, ite_false, Bool.false_eq_true, Bool.true_eq_false, Nat.reduceMul, Bool.and_true, Bool.true_and, Bool.not_true, Bool.not_false, List.all_cons, List.all_nil]
  refine forS_ind (R := fun ds δ μ' => μ' = μ ∧ ∃ (r col : List Nat) (acc : List D) (z : Option Rv), ds = chars r ∧ δ = [some (.v (.str s)), some (.ol acc), some (.v (.str col)), z] ∧ acc ++ stD (parse col r).1 = stD (parse [] s).1 ∧ acc.length + r.length ≤ 10000 ∧ col.length + r.length ≤ 10000) ?_ ?_ _ _ _
    ⟨rfl, s, [], [], _, rfl, rfl, rfl, by simpa using hl, by simpa using hl⟩
  · rintro δ μ' ⟨rfl, r, col, acc, z, hr, rfl, he, _, _⟩
    have : r = [] := by
      cases r with
      | nil => rfl
      | cons c r => simp [chars] at hr
    subst this
    refine hn _ _ ?_
    simp only [parse, stD, List.map_nil, List.append_nil] at he
    simp only [fnS, inS, sNext, sRet, sRetO, sRetN, sIf, sSet, sSetV, sApp, sFrz, sCell, sPar, sPar3, sTgt, sFor, sWhile, sPut, sTry, sRaise, sExpr, sBrk, sCnt, eName, eC, eOp, eTup, eLst, aNil, aCons, aStar, eIf, eAnd, eOr, eNot, tB, L3.b1, tTru, tAnd', tOr', tNot', eGet, eSl, oNone, oSome, eCall, eFn, iAny, walked, iR1, iR2, iEn, iZp, gN, gTup', gCons', gNil', eLc, wipeD, tYes', eJoin, eSplit, eRepl, eDct, pSem, ePop0, eDZ, eMake, eFld, eFldO, sFldO, eProp, eMeth, eNeg, eRNe, eCh, Rv.d, tru, D.dk, getD', getL, atD, atS, asL, asK, seqOf, slD, cLen, lenD, cBools, cInt1, cBool1, cAbs, cMin2, cMax2, cList, cTuple, cIsi, tyN, cLenO, xNo, vw, D.cmp, cmpL, D.dep, depL, deq, deqL, D.isN, D.noCst, memD, opAdd, opSub, opMul, opMul', opDiv, opMod, opPow, opI2, opB2, opOrd, opLt, opLe, opGt, opGe, opEq, opNe, opIsN, opNotN, opIn, opNotIn, noOwn, Rv.own, lookF, blOf, strsOf, dkL, Option.map_some, Option.map_none, List.map_cons, List.map_nil, List.getElem?_cons_succ, List.getElem?_cons_zero, List.set_cons_succ, List.set_cons_zero, List.cons_append, List.nil_append, List.length_cons, List.length_nil, Nat.reduceSub, List.reduceReplicate, List.replicate_succ, List.replicate_zero, true_and, and_true, if_true, if_false, Nat.reduceAdd, reduceCtorEq, Nat.zero_add, List.append_nil, ite_true, ite_false, Bool.false_eq_true, Bool.true_eq_false, Nat.reduceMul, Bool.and_true, Bool.true_and, Bool.not_true, Bool.not_false, List.all_cons, List.all_nil]
    rw [he]
    exact hk
  · rintro d ds δ μ' next2 ⟨rfl, r, col, acc, z, hr, rfl, he, h1, h2⟩ ih
    cases r with
    | nil => simp [chars] at hr
    | cons c r =>
      simp only [chars, List.map_cons, List.cons.injEq] at hr
      obtain ⟨rfl, rfl⟩ := hr
      simp only [List.length_cons] at h1 h2
      simp only [sSeq, fnS, inS, sNext, sRet, sRetO, sRetN, sIf, sSet, sSetV, sApp, sFrz, sCell, sPar, sPar3, sTgt, sFor, sWhile, sPut, sTry, sRaise, sExpr, sBrk, sCnt, eName, eC, eOp, eTup, eLst, aNil, aCons, aStar, eIf, eAnd, eOr, eNot, tB, L3.b1, tTru, tAnd', tOr', tNot', eGet, eSl, oNone, oSome, eCall, eFn, iAny, walked, iR1, iR2, iEn, iZp, gN, gTup', gCons', gNil', eLc, wipeD, tYes', eJoin, eSplit, eRepl, eDct, pSem, ePop0, eDZ, eMake, eFld, eFldO, sFldO, eProp, eMeth, eNeg, eRNe, eCh, Rv.d, tru, D.dk, getD', getL, atD, atS, asL, asK, seqOf, slD, cLen, lenD, cBools, cInt1, cBool1, cAbs, cMin2, cMax2, cList, cTuple, cIsi, tyN, cLenO, xNo, vw, D.cmp, cmpL, D.dep, depL, deq, deqL, D.isN, D.noCst, memD, opAdd, opSub, opMul, opMul', opDiv, opMod, opPow, opI2, opB2, opOrd, opLt, opLe, opGt, opGe, opEq, opNe, opIsN, opNotN, opIn, opNotIn, noOwn, Rv.own, lookF, blOf, strsOf, dkL, Option.map_some, Option.map_none, List.map_cons, List.map_nil, List.getElem?_cons_succ, List.getElem?_cons_zero, List.set_cons_succ, List.set_cons_zero, List.cons_append, List.nil_append, List.length_cons, List.length_nil, Nat.reduceSub, List.reduceReplicate, List.replicate_succ, List.replicate_zero, true_and, and_true, if_true, if_false, Nat.reduceAdd, reduceCtorEq, Nat.zero_add, List.append_nil, ite_true, ite_false, Bool.false_eq_true, Bool.true_eq_false, Nat.reduceMul, Bool.and_true, Bool.true_and, Bool.not_true, Bool.not_false, List.all_cons, List.all_nil]
      rw [sign_mem]
      rw [parse_cons] at he
      refine ite2 (fun hc => ?_) (fun hc => ?_)
      · rw [if_pos hc] at he
        refine ⟨by decide, sz (by decide), by rw [sizeLine_eq]; omega, ih _ _ ⟨rfl, r, [], _, _, rfl, rfl, ?_, by simp; omega, by simp; omega⟩⟩
        rw [eq_dot, List.append_assoc]
        exact he
      · rw [if_neg hc] at he
        refine ⟨by rw [sizeLine_eq]; omega, ih _ _ ⟨rfl, r, _, _, _, rfl, rfl, he, by omega, by simp; omega⟩⟩
theorem p_parsed {s : List Nat} {μ : Mu} {k : KR} {x : KX} (hl : s.length ≤ 10000) (hk : k (.v (.tup [.lst (stD (parse [] s).1), .str (parse [] s).2])) μ) : f_L_parsed [.str s] μ k x := by
  simp only [f_L_parsed, fnS, inS, Option.map_some, Option.map_none, List.map_cons, List.map_nil, List.getElem?_cons_succ, List.getElem?_cons_zero, List.set_cons_succ, List.set_cons_zero, List.cons_append, List.nil_append, List.length_cons, List.length_nil, Nat.reduceSub, List.reduceReplicate, List.replicate_succ, List.replicate_zero, true_and, and_true, if_true, if_false, Nat.reduceAdd, reduceCtorEq, Nat.zero_add, List.append_nil, ite_true, ite_false, Bool.false_eq_true, Bool.true_eq_false, Nat.reduceMul, Bool.and_true, Bool.true_and, Bool.not_true, Bool.not_false, List.all_cons, List.all_nil]; unfold s_L_parsed
  refine seq_step fun next hn => ?_; simp only [fnS, inS, sNext, sRet, sRetO, sRetN, sIf, sSet, sSetV, sApp, sFrz, sCell, sPar, sPar3, sTgt, sFor, sWhile, sPut, sTry, sRaise, sExpr, sBrk, sCnt, eName, eC, eOp, eTup, eLst, aNil, aCons, aStar, eIf, eAnd, eOr, eNot, tB, L3.b1, tTru, tAnd', tOr', tNot', eGet, eSl, oNone, oSome, eCall, eFn, iAny, walked, iR1, iR2, iEn, iZp, gN, gTup', gCons', gNil', eLc, wipeD, tYes', eJoin, eSplit, eRepl, eDct, pSem, ePop0, eDZ, eMake, eFld, eFldO, sFldO, eProp, eMeth, eNeg, eRNe, eCh, Rv.d, tru, D.dk, getD', getL, atD, atS, asL, asK, seqOf, slD, cLen, lenD, cBools, cInt1, cBool1, cAbs, cMin2, cMax2, cList, cTuple, cIsi, tyN, cLenO, xNo, vw, D.cmp, cmpL, D.dep, depL, deq, deqL, D.isN, D.noCst, memD, opAdd, opSub, opMul, opMul', opDiv, opMod, opPow, opI2, opB2, opOrd, opLt, opLe, opGt, opGe, opEq, opNe, opIsN, opNotN, opIn, opNotIn, noOwn, Rv.own, lookF, blOf, strsOf, dkL, Option.map_some, Option.map_none, List.map_cons, List.map_nil, List.getElem?_cons_succ, List.getElem?_cons_zero, List.set_cons_succ, List.set_cons_zero, List.cons_append, List.nil_append, List.length_cons, List.length_nil, Nat.reduceSub, List.reduceReplicate, List.replicate_succ, List.replicate_zero, true_and, and_true, if_true, if_false, Nat.reduceAdd, reduceCtorEq, Nat.zero_add, List.append_nil, ite_true, ite_false, Bool.false_eq_true, Bool.true_eq_false, Nat.reduceMul, Bool.and_true, Bool.true_and, Bool.not_true, Bool.not_false, List.all_cons, List.all_nil]
  refine ⟨sz (by decide), hn _ _ ?_⟩
  clear hn next
  refine seq_step fun next hn => ?_; simp only [fnS, inS, sNext, sRet, sRetO, sRetN, sIf, sSet, sSetV, sApp, sFrz, sCell, sPar, sPar3, sTgt, sFor, sWhile, sPut, sTry, sRaise, sExpr, sBrk, sCnt, eName, eC, eOp, eTup, eLst, aNil, aCons, aStar, eIf, eAnd, eOr, eNot, tB, L3.b1, tTru, tAnd', tOr', tNot', eGet, eSl, oNone, oSome, eCall, eFn, iAny, walked, iR1, iR2, iEn, iZp, gN, gTup', gCons', gNil', eLc, wipeD, tYes', eJoin, eSplit, eRepl, eDct, pSem, ePop0, eDZ, eMake, eFld, eFldO, sFldO, eProp, eMeth, eNeg, eRNe, eCh, Rv.d, tru, D.dk, getD', getL, atD, atS, asL, asK, seqOf, slD, cLen, lenD, cBools, cInt1, cBool1, cAbs, cMin2, cMax2, cList, cTuple, cIsi, tyN, cLenO, xNo, vw, D.cmp, cmpL, D.dep, depL, deq, deqL, D.isN, D.noCst, memD, opAdd, opSub, opMul, opMul', opDiv, opMod, opPow, opI2, opB2, opOrd, opLt, opLe, opGt, opGe, opEq, opNe, opIsN, opNotN, opIn, opNotIn, noOwn, Rv.own, lookF, blOf, strsOf, dkL, Option.map_some, Option.map_none, List.map_cons, List.map_nil, List.getElem?_cons_succ, List.getElem?_cons_zero, List.set_cons_succ, List.set_cons_zero, List.cons_append, List.nil_append, List.length_cons, List.length_nil, Nat.reduceSub, List.reduceReplicate, List.replicate_succ, List.replicate_zero, true_and, and_true, if_true, if_false, Nat.reduceAdd, reduceCtorEq, Nat.zero_add, List.append_nil, ite_true, ite_false, Bool.false_eq_true, Bool.true_eq_false, Nat.reduceMul, Bool.and_true, Bool.true_and, Bool.not_true, Bool.not_false, List.all_cons, List.all_nil]
  refine forS_ind (R := fun ds δ μ' => μ' = μ ∧ ∃ (r col : List Nat) (acc : List D) (z : Option Rv), ds = chars r ∧ δ = [some (.v (.str s)), some (.ol acc), some (.v (.str col)), z] ∧ acc ++ stD (parse col r).1 = stD (parse [] s).1 ∧ (parse col r).2 = (parse [] s).2 ∧ acc.length + r.length ≤ 10000 ∧ col.length + r.length ≤ 10000) ?_ ?_ _ _ _
    ⟨rfl, s, [], [], _, rfl, rfl, rfl, rfl, by simpa using hl, by simpa using hl⟩
  · rintro δ μ' ⟨rfl, r, col, acc, z, hr, rfl, he, he2, _, _⟩
    have : r = [] := by
      cases r with
      | nil => rfl
      | cons c r => simp [chars] at hr
    subst this
    refine hn _ _ ?_
    simp only [parse, stD, List.map_nil, List.append_nil] at he he2
    simp only [fnS, inS, sNext, sRet, sRetO, sRetN, sIf, sSet, sSetV, sApp, sFrz, sCell, sPar, sPar3, sTgt, sFor, sWhile, sPut, sTry, sRaise, sExpr, sBrk, sCnt, eName, eC, eOp, eTup, eLst, aNil, aCons, aStar, eIf, eAnd, eOr, eNot, tB, L3.b1, tTru, tAnd', tOr', tNot', eGet, eSl, oNone, oSome, eCall, eFn, iAny, walked, iR1, iR2, iEn, iZp, gN, gTup', gCons', gNil', eLc, wipeD, tYes', eJoin, eSplit, eRepl, eDct, pSem, ePop0, eDZ, eMake, eFld, eFldO, sFldO, eProp, eMeth, eNeg, eRNe, eCh, Rv.d, tru, D.dk, getD', getL, atD, atS, asL, asK, seqOf, slD, cLen, lenD, cBools, cInt1, cBool1, cAbs, cMin2, cMax2, cList, cTuple, cIsi, tyN, cLenO, xNo, vw, D.cmp, cmpL, D.dep, depL, deq, deqL, D.isN, D.noCst, memD, opAdd, opSub, opMul, opMul', opDiv, opMod, opPow, opI2, opB2, opOrd, opLt, opLe, opGt, opGe, opEq, opNe, opIsN, opNotN, opIn, opNotIn, noOwn, Rv.own, lookF, blOf, strsOf, dkL, Option.map_some, Option.map_none, List.map_cons, List.map_nil, List.getElem?_cons_succ, List.getElem?_cons_zero, List.set_cons_succ, List.set_cons_zero, List.cons_append, List.nil_append, List.length_cons, List.length_nil, Nat.reduceSub, List.reduceReplicate, List.replicate_succ, List.replicate_zero, true_and, and_true, if_true, if_false, Nat.reduceAdd, reduceCtorEq, Nat.zero_add, List.append_nil, ite_true, ite_false, Bool.false_eq_true, Bool.true_eq_false, Nat.reduceMul, Bool.and_true, Bool.true_and, Bool.not_true, Bool.not_false, List.all_cons, List.all_nil]
    rw [he, he2]
    exact ⟨sz (by decide), hk⟩
  · rintro d ds δ μ' next2 ⟨rfl, r, col, acc, z, hr, rfl, he, he2, h1, h2⟩ ih
    cases r with
    | nil => simp [chars] at hr
    | cons c r =>
      simp only [chars, List.map_cons, List.cons.injEq] at hr
      obtain ⟨rfl, rfl⟩ := hr
      simp only [List.length_cons] at h1 h2
      simp only [sSeq, fnS, inS, sNext, sRet, sRetO, sRetN, sIf, sSet, sSetV, sApp, sFrz, sCell, sPar, sPar3, sTgt, sFor, sWhile, sPut, sTry, sRaise, sExpr, sBrk, sCnt, eName, eC, eOp, eTup, eLst, aNil, aCons, aStar, eIf, eAnd, eOr, eNot, tB, L3.b1, tTru, tAnd', tOr', tNot', eGet, eSl, oNone, oSome, eCall, eFn, iAny, walked, iR1, iR2, iEn, iZp, gN, gTup', gCons', gNil', eLc, wipeD, tYes', eJoin, eSplit, eRepl, eDct, pSem, ePop0, eDZ, eMake, eFld, eFldO, sFldO, eProp, eMeth, eNeg, eRNe, eCh, Rv.d, tru, D.dk, getD', getL, atD, atS, asL, asK, seqOf, slD, cLen, lenD, cBools, cInt1, cBool1, cAbs, cMin2, cMax2, cList, cTuple, cIsi, tyN, cLenO, xNo, vw, D.cmp, cmpL, D.dep, depL, deq, deqL, D.isN, D.noCst, memD, opAdd, opSub, opMul, opMul', opDiv, opMod, opPow, opI2, opB2, opOrd, opLt, opLe, opGt, opGe, opEq, opNe, opIsN, opNotN, opIn, opNotIn, noOwn, Rv.own, lookF, blOf, strsOf, dkL, Option.map_some, Option.map_none, List.map_cons, List.map_nil, List.getElem?_cons_succ, List.getElem?_cons_zero, List.set_cons_succ, List.set_cons_zero, List.cons_append, List.nil_append, List.length_cons, List.length_nil, Nat.reduceSub, List.reduceReplicate, List.replicate_succ, List.replicate_zero, true_and, and_true, if_true, if_false, Nat.reduceAdd, reduceCtorEq, Nat.zero_add, List.append_nil, ite_true, ite_false, Bool.false_eq_true, Bool.true_eq_false, Nat.reduceMul, Bool.and_true, Bool.true_and, Bool.not_true, Bool.not_false, List.all_cons, List.all_nil]
      rw [sign_mem]
      rw [parse_cons] at he he2
      refine ite2 (fun hc => ?_) (fun hc => ?_)
      · rw [if_pos hc] at he he2
        refine ⟨by decide, sz (by decide), by rw [sizeLine_eq]; omega, ih _ _ ⟨rfl, r, [], _, _, rfl, rfl, ?_, he2, by simp; omega, by simp; omega⟩⟩
        rw [eq_dot, List.append_assoc]
        exact he
      · rw [if_neg hc] at he he2
        refine ⟨by rw [sizeLine_eq]; omega, ih _ _ ⟨rfl, r, _, _, _, rfl, rfl, he, he2, by omega, by simp; omega⟩⟩
/-! the letters behind the last sign -/
theorem repl_signs : ∀ s : List Nat, replD 45 [46] s = s.map fun c => if isSign c = true then 46 else c
  | [] => rfl
  | c :: r => by
    rw [replD_cons, repl_signs r, List.map_cons]
    by_cases h : c = 45
    · subst h; simp [isSign]
    · by_cases h2 : c = 46
      · subst h2; simp [isSign]
      · simp [isSign, h, h2]
theorem split_last : ∀ (s acc : List Nat), ∃ l, splitD 46 (s.map fun c => if isSign c = true then 46 else c) = l ∧ l ≠ [] ∧ ∀ h : l ≠ [], (parse acc s).2 = (if l.length = 1 then acc else []) ++ l.getLast h
  | [], acc => ⟨[[]], rfl, by simp, fun _ => by simp [parse]⟩
  | c :: r, acc => by
    refine ⟨_, rfl, splitD_ne _ _, fun hne => ?_⟩
    rw [parse_cons]
    by_cases hc : isSign c = true
    · obtain ⟨l, e, ne, q⟩ := split_last r []
      simp only [hc, if_true, List.map_cons, splitD, e] at hne ⊢
      rw [q ne]
      have : (l.length + 1 = 1) = False := by
        have := List.length_pos_iff.mpr ne
        simp; omega
      simp [ne, List.getLast_cons]
    · obtain ⟨l, e, ne, q⟩ := split_last r (acc ++ [c])
      have hc46 : c ≠ 46 := fun z => hc (by subst z; rfl)
      simp only [hc, if_false, List.map_cons, splitD, e, Bool.false_eq_true, if_neg hc46] at hne ⊢
      rw [q ne]
      cases l with
      | nil => exact absurd rfl ne
      | cons a t =>
        cases t with
        | nil => simp
        | cons b t => simp
theorem atI_last {α : Type} (l : List α) (h : l ≠ []) : atI l (-1) = some (l.getLast h) := by
  have hp : 0 < l.length := List.length_pos_iff.mpr h
  unfold atI ixN
  have e : ((-1 : Int) + (l.length : Int)).toNat = l.length - 1 := by omega
  rw [if_neg (by decide), if_pos (by omega)]
  simp only [Option.bind_some, e]
  rw [List.getLast_eq_getElem, List.getElem?_eq_getElem (by omega)]
theorem p_tail_of {s : List Nat} {μ : Mu} {k : KR} {x : KX} (hl : s.length ≤ 10000) (hk : k (.v (.str (parse [] s).2)) μ) : f_tail_of [.str s] μ k x := by
  simp only [f_tail_of, fnS, inS, Option.map_some, Option.map_none, List.map_cons, List.map_nil, List.getElem?_cons_succ, List.getElem?_cons_zero, List.set_cons_succ, List.set_cons_zero, List.cons_append, List.nil_append, List.length_cons, List.length_nil, Nat.reduceSub, List.reduceReplicate, List.replicate_succ, List.replicate_zero, true_and, and_true, if_true, if_false, Nat.reduceAdd, reduceCtorEq, Nat.zero_add, List.append_nil, ite_true, ite_false, Bool.false_eq_true, Bool.true_eq_false, Nat.reduceMul, Bool.and_true, Bool.true_and, Bool.not_true, Bool.not_false, List.all_cons, List.all_nil]; unfold s_tail_of
  simp only [fnS, inS, sNext, sRet, sRetO, sRetN, sIf, sSet, sSetV, sApp, sFrz, sCell, sPar, sPar3, sTgt, sFor, sWhile, sPut, sTry, sRaise, sExpr, sBrk, sCnt, eName, eC, eOp, eTup, eLst, aNil, aCons, aStar, eIf, eAnd, eOr, eNot, tB, L3.b1, tTru, tAnd', tOr', tNot', eGet, eSl, oNone, oSome, eCall, eFn, iAny, walked, iR1, iR2, iEn, iZp, gN, gTup', gCons', gNil', eLc, wipeD, tYes', eJoin, eSplit, eRepl, eDct, pSem, ePop0, eDZ, eMake, eFld, eFldO, sFldO, eProp, eMeth, eNeg, eRNe, eCh, Rv.d, tru, D.dk, getD', getL, atD, atS, asL, asK, seqOf, slD, cLen, lenD, cBools, cInt1, cBool1, cAbs, cMin2, cMax2, cList, cTuple, cIsi, tyN, cLenO, xNo, vw, D.cmp, cmpL, D.dep, depL, deq, deqL, D.isN, D.noCst, memD, opAdd, opSub, opMul, opMul', opDiv, opMod, opPow, opI2, opB2, opOrd, opLt, opLe, opGt, opGe, opEq, opNe, opIsN, opNotN, opIn, opNotIn, noOwn, Rv.own, lookF, blOf, strsOf, dkL, Option.map_some, Option.map_none, List.map_cons, List.map_nil, List.getElem?_cons_succ, List.getElem?_cons_zero, List.set_cons_succ, List.set_cons_zero, List.cons_append, List.nil_append, List.length_cons, List.length_nil, Nat.reduceSub, List.reduceReplicate, List.replicate_succ, List.replicate_zero, true_and, and_true, if_true, if_false, Nat.reduceAdd, reduceCtorEq, Nat.zero_add, List.append_nil, ite_true, ite_false, Bool.false_eq_true, Bool.true_eq_false, Nat.reduceMul, Bool.and_true, Bool.true_and, Bool.not_true, Bool.not_false, List.all_cons, List.all_nil]
  have hr := replD_len 45 [46] s
  simp only [List.length_cons, List.length_nil] at hr
  refine ⟨by rw [sizeLine_eq]; omega, by decide, by rw [sizeLine_eq]; omega, ?_⟩
  rw [repl_signs]
  obtain ⟨l, e, ne, q⟩ := split_last s []
  rw [e]
  have hlast : atI (l.map D.str) (-1) = some (.str (l.getLast ne)) := atI_last (List.map D.str l) (by simpa using ne) |>.trans (by rw [List.getLast_map])
  rw [hlast]
  have := q ne
  simp only [ite_self, List.nil_append] at this
  rw [← this]
  exact hk
end L3

namespace L3
open PySem PySem.Spec L2
open PyProof.Rows hiding St
set_option autoImplicit false
/-! ### which things are patterns -/
def isLet (c : Nat) : Bool := decide (c ∈ [97, 98, 99, 100, 101, 102, 103, 104, 105, 106, 107, 108, 109, 110, 111, 112, 113, 114, 115, 116, 117, 118, 119, 120, 121, 122])
def okc (c : Nat) : Bool := isLet c || isSign c
def isText (s : List Nat) : Bool := decide (1 ≤ s.length) && decide (s.length ≤ 400) && s.any isSign && s.all okc
def isTextD : D → Bool
  | .str s => isText s
  | _ => false
theorem blOf_map (f : Nat → Bool) : ∀ l : List Nat, blOf (l.map fun c => .bl (f c)) = some (l.map f)
  | [] => rfl
  | c :: l => by simp only [List.map_cons, blOf, blOf_map f l, Option.map_some]
theorem chars_nil {r : List Nat} (h : [] = chars r) : r = [] := by
  cases r with
  | nil => rfl
  | cons c r => simp [chars] at h
theorem chars_cons {d : D} {ds : List D} {r : List Nat} (h : d :: ds = chars r) : ∃ c r', r = c :: r' ∧ d = .str [c] ∧ ds = chars r' := by
  cases r with
  | nil => simp [chars] at h
  | cons c r =>
    simp only [chars, List.map_cons, List.cons.injEq] at h
    exact ⟨c, r, rfl, h.1, h.2⟩
theorem any_sign (s : List Nat) : s.any isSign = (decide (46 ∈ s) || decide (45 ∈ s)) := by
  induction s with
  | nil => rfl
  | cons c s ih =>
    rw [List.any_cons, ih]
    by_cases h : c = 46
    · subst h; simp [isSign]
    · by_cases h2 : c = 45
      · subst h2; simp [isSign]
      · simp [isSign, h, h2, Ne.symm h, Ne.symm h2]
theorem odd_type {d : D} (h : Odd d) (μ : Mu) : (∃ t, tyN μ d = some t ∧ kitB t "str" = some false) ∧ isTextD d = false := by
  rcases h with rfl | rfl | rfl | rfl | rfl | rfl | rfl | rfl | rfl <;> exact ⟨⟨_, rfl, by decide +kernel⟩, rfl⟩
theorem kit_str : kitB "str" "str" = some true := by decide +kernel
theorem p_is_text {d : D} {μ : Mu} {k : KR} {x : KX} (hd : Drawn d) (hk : k (.v (.bl (isTextD d))) μ) : f_is_text [d] μ k x := by
  simp only [f_is_text, fnS, inS, Option.map_some, Option.map_none, List.map_cons, List.map_nil, List.getElem?_cons_succ, List.getElem?_cons_zero, List.set_cons_succ, List.set_cons_zero, List.cons_append, List.nil_append, List.length_cons, List.length_nil, Nat.reduceSub, List.reduceReplicate, List.replicate_succ, List.replicate_zero, true_and, and_true, if_true, if_false, Nat.reduceAdd, reduceCtorEq, Nat.zero_add, List.append_nil, ite_true, ite_false, Bool.false_eq_true, Bool.true_eq_false, Nat.reduceMul, Bool.and_true, Bool.true_and, Bool.not_true, Bool.not_false, List.all_cons, List.all_nil]; unfold s_is_text
  refine seq_step fun next hn => ?_; simp only [fnS, inS, sNext, sRet, sRetO, sRetN, sIf, sSet, sSetV, sApp, sFrz, sCell, sPar, sPar3, sTgt, sFor, sWhile, sPut, sTry, sRaise, sExpr, sBrk, sCnt, eName, eC, eOp, eTup, eLst, aNil, aCons, aStar, eIf, eAnd, eOr, eNot, tB, L3.b1, tTru, tAnd', tOr', tNot', eGet, eSl, oNone, oSome, eCall, eFn, iAny, walked, iR1, iR2, iEn, iZp, gN, gTup', gCons', gNil', eLc, wipeD, tYes', eJoin, eSplit, eRepl, eDct, pSem, ePop0, eDZ, eMake, eFld, eFldO, sFldO, eProp, eMeth, eNeg, eRNe, eCh, Rv.d, tru, D.dk, getD', getL, atD, atS, asL, asK, seqOf, slD, cLen, lenD, cBools, cInt1, cBool1, cAbs, cMin2, cMax2, cList, cTuple, cIsi, tyN, cLenO, xNo, vw, D.cmp, cmpL, D.dep, depL, deq, deqL, D.isN, D.noCst, memD, opAdd, opSub, opMul, opMul', opDiv, opMod, opPow, opI2, opB2, opOrd, opLt, opLe, opGt, opGe, opEq, opNe, opIsN, opNotN, opIn, opNotIn, noOwn, Rv.own, lookF, blOf, strsOf, dkL, Option.map_some, Option.map_none, List.map_cons, List.map_nil, List.getElem?_cons_succ, List.getElem?_cons_zero, List.set_cons_succ, List.set_cons_zero, List.cons_append, List.nil_append, List.length_cons, List.length_nil, Nat.reduceSub, List.reduceReplicate, List.replicate_succ, List.replicate_zero, true_and, and_true, if_true, if_false, Nat.reduceAdd, reduceCtorEq, Nat.zero_add, List.append_nil, ite_true, ite_false, Bool.false_eq_true, Bool.true_eq_false, Nat.reduceMul, Bool.and_true, Bool.true_and, Bool.not_true, Bool.not_false, List.all_cons, List.all_nil]
  rcases hd with hd | ⟨s, rfl, hl⟩
  · obtain ⟨⟨t, h1, h2⟩, h3⟩ := odd_type hd μ
    unfold tyN at h1
    rw [h3] at hk
    rcases hd with rfl | rfl | rfl | rfl | rfl | rfl | rfl | rfl | rfl <;>
    · simp only [Option.some.injEq] at h1
      subst h1
      simp only [h2, fnS, inS, sNext, sRet, sRetO, sRetN, sIf, sSet, sSetV, sApp, sFrz, sCell, sPar, sPar3, sTgt, sFor, sWhile, sPut, sTry, sRaise, sExpr, sBrk, sCnt, eName, eC, eOp, eTup, eLst, aNil, aCons, aStar, eIf, eAnd, eOr, eNot, tB, L3.b1, tTru, tAnd', tOr', tNot', eGet, eSl, oNone, oSome, eCall, eFn, iAny, walked, iR1, iR2, iEn, iZp, gN, gTup', gCons', gNil', eLc, wipeD, tYes', eJoin, eSplit, eRepl, eDct, pSem, ePop0, eDZ, eMake, eFld, eFldO, sFldO, eProp, eMeth, eNeg, eRNe, eCh, Rv.d, tru, D.dk, getD', getL, atD, atS, asL, asK, seqOf, slD, cLen, lenD, cBools, cInt1, cBool1, cAbs, cMin2, cMax2, cList, cTuple, cIsi, tyN, cLenO, xNo, vw, D.cmp, cmpL, D.dep, depL, deq, deqL, D.isN, D.noCst, memD, opAdd, opSub, opMul, opMul', opDiv, opMod, opPow, opI2, opB2, opOrd, opLt, opLe, opGt, opGe, opEq, opNe, opIsN, opNotN, opIn, opNotIn, noOwn, Rv.own, lookF, blOf, strsOf, dkL, Option.map_some, Option.map_none, List.map_cons, List.map_nil, List.getElem?_cons_succ, List.getElem?_cons_zero, List.set_cons_succ, List.set_cons_zero, List.cons_append, List.nil_append, List.length_cons, List.length_nil, Nat.reduceSub, List.reduceReplicate, List.replicate_succ, List.replicate_zero, true_and, and_true, if_true, if_false, Nat.reduceAdd, reduceCtorEq, Nat.zero_add, List.append_nil, ite_true, ite_false, Bool.false_eq_true, Bool.true_eq_false, Nat.reduceMul, Bool.and_true, Bool.true_and, Bool.not_true, Bool.not_false, List.all_cons, List.all_nil]
      exact hk
  simp only [kit_str, fnS, inS, sNext, sRet, sRetO, sRetN, sIf, sSet, sSetV, sApp, sFrz, sCell, sPar, sPar3, sTgt, sFor, sWhile, sPut, sTry, sRaise, sExpr, sBrk, sCnt, eName, eC, eOp, eTup, eLst, aNil, aCons, aStar, eIf, eAnd, eOr, eNot, tB, L3.b1, tTru, tAnd', tOr', tNot', eGet, eSl, oNone, oSome, eCall, eFn, iAny, walked, iR1, iR2, iEn, iZp, gN, gTup', gCons', gNil', eLc, wipeD, tYes', eJoin, eSplit, eRepl, eDct, pSem, ePop0, eDZ, eMake, eFld, eFldO, sFldO, eProp, eMeth, eNeg, eRNe, eCh, Rv.d, tru, D.dk, getD', getL, atD, atS, asL, asK, seqOf, slD, cLen, lenD, cBools, cInt1, cBool1, cAbs, cMin2, cMax2, cList, cTuple, cIsi, tyN, cLenO, xNo, vw, D.cmp, cmpL, D.dep, depL, deq, deqL, D.isN, D.noCst, memD, opAdd, opSub, opMul, opMul', opDiv, opMod, opPow, opI2, opB2, opOrd, opLt, opLe, opGt, opGe, opEq, opNe, opIsN, opNotN, opIn, opNotIn, noOwn, Rv.own, lookF, blOf, strsOf, dkL, Option.map_some, Option.map_none, List.map_cons, List.map_nil, List.getElem?_cons_succ, List.getElem?_cons_zero, List.set_cons_succ, List.set_cons_zero, List.cons_append, List.nil_append, List.length_cons, List.length_nil, Nat.reduceSub, List.reduceReplicate, List.replicate_succ, List.replicate_zero, true_and, and_true, if_true, if_false, Nat.reduceAdd, reduceCtorEq, Nat.zero_add, List.append_nil, ite_true, ite_false, Bool.false_eq_true, Bool.true_eq_false, Nat.reduceMul, Bool.and_true, Bool.true_and, Bool.not_true, Bool.not_false, List.all_cons, List.all_nil]
  by_cases h1 : 1 ≤ s.length
  case neg =>
    have e : isTextD (.str s) = false := by simp [isTextD, isText, h1]
    rw [e] at hk
    rw [decide_eq_false (by omega)]
    exact hk
  rw [decide_eq_true (by omega)]
  simp only
  by_cases h4 : s.length ≤ 400
  case neg =>
    have e : isTextD (.str s) = false := by simp [isTextD, isText, h4]
    rw [e] at hk
    rw [if_pos (by rw [decide_eq_false (by omega)]; rfl)]
    exact hk
  rw [if_neg (by rw [decide_eq_true (by omega)]; decide)]
  refine hn _ _ ?_
  clear hn next
  have e : isTextD (.str s) = (s.any isSign && s.all okc) := by simp [isTextD, isText, h1, h4]
  rw [e, any_sign] at hk
  simp only [fnS, inS, sNext, sRet, sRetO, sRetN, sIf, sSet, sSetV, sApp, sFrz, sCell, sPar, sPar3, sTgt, sFor, sWhile, sPut, sTry, sRaise, sExpr, sBrk, sCnt, eName, eC, eOp, eTup, eLst, aNil, aCons, aStar, eIf, eAnd, eOr, eNot, tB, L3.b1, tTru, tAnd', tOr', tNot', eGet, eSl, oNone, oSome, eCall, eFn, iAny, walked, iR1, iR2, iEn, iZp, gN, gTup', gCons', gNil', eLc, wipeD, tYes', eJoin, eSplit, eRepl, eDct, pSem, ePop0, eDZ, eMake, eFld, eFldO, sFldO, eProp, eMeth, eNeg, eRNe, eCh, Rv.d, tru, D.dk, getD', getL, atD, atS, asL, asK, seqOf, slD, cLen, lenD, cBools, cInt1, cBool1, cAbs, cMin2, cMax2, cList, cTuple, cIsi, tyN, cLenO, xNo, vw, D.cmp, cmpL, D.dep, depL, deq, deqL, D.isN, D.noCst, memD, opAdd, opSub, opMul, opMul', opDiv, opMod, opPow, opI2, opB2, opOrd, opLt, opLe, opGt, opGe, opEq, opNe, opIsN, opNotN, opIn, opNotIn, noOwn, Rv.own, lookF, blOf, strsOf, dkL, Option.map_some, Option.map_none, List.map_cons, List.map_nil, List.getElem?_cons_succ, List.getElem?_cons_zero, List.set_cons_succ, List.set_cons_zero, List.cons_append, List.nil_append, List.length_cons, List.length_nil, Nat.reduceSub, List.reduceReplicate, List.replicate_succ, List.replicate_zero, true_and, and_true, if_true, if_false, Nat.reduceAdd, reduceCtorEq, Nat.zero_add, List.append_nil, ite_true, ite_false, Bool.false_eq_true, Bool.true_eq_false, Nat.reduceMul, Bool.and_true, Bool.true_and, Bool.not_true, Bool.not_false, List.all_cons, List.all_nil]
  have go : ∀ K : List D → Mu → Prop, K (s.map fun c => .bl (okc c)) μ → lcS (gN 1) tYes' (eOr (eOp opIn (eName 1) (eC (.str [97, 98, 99, 100, 101, 102, 103, 104, 105, 106, 107, 108, 109, 110, 111, 112, 113, 114, 115, 116, 117, 118, 119, 120, 121, 122]))) (eOp opIn (eName 1) (eC (.str [46, 45])))) (chars s) [some (.v (.str s)), none] μ [] K := fun K hK => by
    refine lcS_ind (R := fun ds acc μ' => μ' = μ ∧ ∃ p r : List Nat, s = p ++ r ∧ ds = chars r ∧ acc = p.map fun c => .bl (okc c)) ?_ ?_ _ _ _ ⟨rfl, [], s, rfl, rfl, rfl⟩
    · rintro acc μ' ⟨rfl, p, r, hp, hr, rfl⟩
      have := chars_nil hr
      subst this
      rw [List.append_nil] at hp
      subst hp
      exact hK
    · rintro d ds acc μ' next ⟨rfl, p, r, hp, hr, rfl⟩ ih
      obtain ⟨c, r', rfl, rfl, rfl⟩ := chars_cons hr
      have hlen : p.length ≤ 10000 := by rw [hp, List.length_append] at hl; omega
      simp only [fnS, inS, sNext, sRet, sRetO, sRetN, sIf, sSet, sSetV, sApp, sFrz, sCell, sPar, sPar3, sTgt, sFor, sWhile, sPut, sTry, sRaise, sExpr, sBrk, sCnt, eName, eC, eOp, eTup, eLst, aNil, aCons, aStar, eIf, eAnd, eOr, eNot, tB, L3.b1, tTru, tAnd', tOr', tNot', eGet, eSl, oNone, oSome, eCall, eFn, iAny, walked, iR1, iR2, iEn, iZp, gN, gTup', gCons', gNil', eLc, wipeD, tYes', eJoin, eSplit, eRepl, eDct, pSem, ePop0, eDZ, eMake, eFld, eFldO, sFldO, eProp, eMeth, eNeg, eRNe, eCh, Rv.d, tru, D.dk, getD', getL, atD, atS, asL, asK, seqOf, slD, cLen, lenD, cBools, cInt1, cBool1, cAbs, cMin2, cMax2, cList, cTuple, cIsi, tyN, cLenO, xNo, vw, D.cmp, cmpL, D.dep, depL, deq, deqL, D.isN, D.noCst, memD, opAdd, opSub, opMul, opMul', opDiv, opMod, opPow, opI2, opB2, opOrd, opLt, opLe, opGt, opGe, opEq, opNe, opIsN, opNotN, opIn, opNotIn, noOwn, Rv.own, lookF, blOf, strsOf, dkL, Option.map_some, Option.map_none, List.map_cons, List.map_nil, List.getElem?_cons_succ, List.getElem?_cons_zero, List.set_cons_succ, List.set_cons_zero, List.cons_append, List.nil_append, List.length_cons, List.length_nil, Nat.reduceSub, List.reduceReplicate, List.replicate_succ, List.replicate_zero, true_and, and_true, if_true, if_false, Nat.reduceAdd, reduceCtorEq, Nat.zero_add, List.append_nil, ite_true, ite_false, Bool.false_eq_true, Bool.true_eq_false, Nat.reduceMul, Bool.and_true, Bool.true_and, Bool.not_true, Bool.not_false, List.all_cons, List.all_nil]
      have one : ∀ b : Bool, b = okc c → (p.map fun c => D.bl (okc c)).length < sizeLine ∧ next ((p.map fun c => D.bl (okc c)) ++ [.bl b]) μ' := fun b hb =>
        ⟨by rw [List.length_map, sizeLine_eq]; omega, ih _ _ ⟨rfl, p ++ [c], r', by simp [hp], rfl, by simp [hb]⟩⟩
      refine ite2 (fun hc => ?_) (fun hc => ?_)
      · exact one true (by simp only [okc, isLet, hc, Bool.true_or])
      · refine one _ ?_
        rw [sign_mem]
        simp only [okc, isLet, Bool.eq_false_iff.mpr hc, Bool.false_or]
  have yes : (decide (46 ∈ s) || decide (45 ∈ s)) = true → (match blOf (s.map fun c => D.bl (okc c)) with
      | some bs => k (.v (.bl (allB bs))) μ
      | none => False) := fun hs => by
    rw [hs, Bool.true_and] at hk
    rw [blOf_map]
    have : allB (s.map okc) = s.all okc := by simp [allB, List.all_map]
    simp only [this]
    exact hk
  refine ite2 (fun h6 => go _ (yes (by rw [h6]; rfl))) (fun h6 => ite2 (fun h5 => go _ (yes (by rw [h5, Bool.or_true]))) (fun h5 => ?_))
  rw [Bool.eq_false_iff.mpr h6, Bool.eq_false_iff.mpr h5] at hk
  exact hk
theorem cmp_strs : ∀ l : List Nat, cmpL (l.map fun c => .str [c]) = true
  | [] => rfl
  | i :: l => by simp only [List.map_cons, cmpL, D.cmp, cmp_strs l, Bool.and_self]
theorem dep_strs : ∀ l : List Nat, depL (l.map fun c => .str [c]) = 0
  | [] => rfl
  | i :: l => by simp only [List.map_cons, depL, D.dep, dep_strs l, Nat.max_self]
theorem deq_nil : ∀ l : List Nat, deqL (l.map fun c => .str [c]) [] = l.isEmpty
  | [] => rfl
  | i :: l => rfl
theorem sign_or (c : Nat) : (decide (c ∈ [97, 98, 99, 100, 101, 102, 103, 104, 105, 106, 107, 108, 109, 110, 111, 112, 113, 114, 115, 116, 117, 118, 119, 120, 121, 122]) || decide (c ∈ [46, 45])) = okc c := by
  rw [sign_mem]; rfl
theorem lc_filter {tt : SemT} {f : Nat → Bool} {s : List Nat} {δ : Env'} {μ : Mu} {K : List D → Mu → Prop} (j : Nat) (hj : j < δ.length) (hl : s.length ≤ 10000) (htt : ∀ c (kk : Bool → Mu → Prop), (∀ b, b = f c → kk b μ) → tt (δ.set j (some (.v (.str [c])))) μ kk fun _ _ => False)
    (hK : K ((s.filter f).map fun c => .str [c]) μ) : lcS (gN j) tt (eName j) (chars s) δ μ [] K := by
  refine lcS_ind (R := fun ds acc μ' => μ' = μ ∧ ∃ p r : List Nat, s = p ++ r ∧ ds = chars r ∧ acc = (p.filter f).map fun c => .str [c]) ?_ ?_ _ _ _ ⟨rfl, [], s, rfl, rfl, rfl⟩
  · rintro acc μ' ⟨rfl, p, r, hp, hr, rfl⟩
    have := chars_nil hr
    subst this
    rw [List.append_nil] at hp
    subst hp
    exact hK
  · rintro d ds acc μ' next ⟨rfl, p, r, hp, hr, rfl⟩ ih
    obtain ⟨c, r', rfl, rfl, rfl⟩ := chars_cons hr
    have hlen : p.length ≤ 10000 := by rw [hp, List.length_append] at hl; omega
    have hf := List.length_filter_le f p
    refine htt c _ fun b hb => ?_
    refine ite2 (fun hc => ?_) (fun hc => ?_)
    · have e : (δ.set j (some (.v (.str [c]))))[j]? = some (some (.v (.str [c]))) := List.getElem?_set_self hj
      simp only [eName, e]
      refine ⟨by rw [List.length_map, sizeLine_eq]; omega, ih _ _ ⟨rfl, p ++ [c], r', by simp [hp], rfl, ?_⟩⟩
      rw [hb] at hc
      simp [hc, Rv.d]
    · refine ih _ _ ⟨rfl, p ++ [c], r', by simp [hp], rfl, ?_⟩
      rw [hb] at hc
      simp [hc]
theorem p_is_pattern {d : D} {μ : Mu} {k : KR} {x : KX} (hd : Drawn d) (hk : k (.v (.bl (isTextD d))) μ) : f_L_is_pattern [d] μ k x := by
  simp only [f_L_is_pattern, fnS, inS, Option.map_some, Option.map_none, List.map_cons, List.map_nil, List.getElem?_cons_succ, List.getElem?_cons_zero, List.set_cons_succ, List.set_cons_zero, List.cons_append, List.nil_append, List.length_cons, List.length_nil, Nat.reduceSub, List.reduceReplicate, List.replicate_succ, List.replicate_zero, true_and, and_true, if_true, if_false, Nat.reduceAdd, reduceCtorEq, Nat.zero_add, List.append_nil, ite_true, ite_false, Bool.false_eq_true, Bool.true_eq_false, Nat.reduceMul, Bool.and_true, Bool.true_and, Bool.not_true, Bool.not_false, List.all_cons, List.all_nil]; unfold s_L_is_pattern
  refine seq_step fun next hn => ?_; simp only [fnS, inS, sNext, sRet, sRetO, sRetN, sIf, sSet, sSetV, sApp, sFrz, sCell, sPar, sPar3, sTgt, sFor, sWhile, sPut, sTry, sRaise, sExpr, sBrk, sCnt, eName, eC, eOp, eTup, eLst, aNil, aCons, aStar, eIf, eAnd, eOr, eNot, tB, L3.b1, tTru, tAnd', tOr', tNot', eGet, eSl, oNone, oSome, eCall, eFn, iAny, walked, iR1, iR2, iEn, iZp, gN, gTup', gCons', gNil', eLc, wipeD, tYes', eJoin, eSplit, eRepl, eDct, pSem, ePop0, eDZ, eMake, eFld, eFldO, sFldO, eProp, eMeth, eNeg, eRNe, eCh, Rv.d, tru, D.dk, getD', getL, atD, atS, asL, asK, seqOf, slD, cLen, lenD, cBools, cInt1, cBool1, cAbs, cMin2, cMax2, cList, cTuple, cIsi, tyN, cLenO, xNo, vw, D.cmp, cmpL, D.dep, depL, deq, deqL, D.isN, D.noCst, memD, opAdd, opSub, opMul, opMul', opDiv, opMod, opPow, opI2, opB2, opOrd, opLt, opLe, opGt, opGe, opEq, opNe, opIsN, opNotN, opIn, opNotIn, noOwn, Rv.own, lookF, blOf, strsOf, dkL, Option.map_some, Option.map_none, List.map_cons, List.map_nil, List.getElem?_cons_succ, List.getElem?_cons_zero, List.set_cons_succ, List.set_cons_zero, List.cons_append, List.nil_append, List.length_cons, List.length_nil, Nat.reduceSub, List.reduceReplicate, List.replicate_succ, List.replicate_zero, true_and, and_true, if_true, if_false, Nat.reduceAdd, reduceCtorEq, Nat.zero_add, List.append_nil, ite_true, ite_false, Bool.false_eq_true, Bool.true_eq_false, Nat.reduceMul, Bool.and_true, Bool.true_and, Bool.not_true, Bool.not_false, List.all_cons, List.all_nil]
  rcases hd with hd | ⟨s, rfl, hl⟩
  · obtain ⟨⟨t, h1, h2⟩, h3⟩ := odd_type hd μ
    unfold tyN at h1
    rw [h3] at hk
    rcases hd with rfl | rfl | rfl | rfl | rfl | rfl | rfl | rfl | rfl <;>
    · simp only [Option.some.injEq] at h1
      subst h1
      simp only [h2, fnS, inS, sNext, sRet, sRetO, sRetN, sIf, sSet, sSetV, sApp, sFrz, sCell, sPar, sPar3, sTgt, sFor, sWhile, sPut, sTry, sRaise, sExpr, sBrk, sCnt, eName, eC, eOp, eTup, eLst, aNil, aCons, aStar, eIf, eAnd, eOr, eNot, tB, L3.b1, tTru, tAnd', tOr', tNot', eGet, eSl, oNone, oSome, eCall, eFn, iAny, walked, iR1, iR2, iEn, iZp, gN, gTup', gCons', gNil', eLc, wipeD, tYes', eJoin, eSplit, eRepl, eDct, pSem, ePop0, eDZ, eMake, eFld, eFldO, sFldO, eProp, eMeth, eNeg, eRNe, eCh, Rv.d, tru, D.dk, getD', getL, atD, atS, asL, asK, seqOf, slD, cLen, lenD, cBools, cInt1, cBool1, cAbs, cMin2, cMax2, cList, cTuple, cIsi, tyN, cLenO, xNo, vw, D.cmp, cmpL, D.dep, depL, deq, deqL, D.isN, D.noCst, memD, opAdd, opSub, opMul, opMul', opDiv, opMod, opPow, opI2, opB2, opOrd, opLt, opLe, opGt, opGe, opEq, opNe, opIsN, opNotN, opIn, opNotIn, noOwn, Rv.own, lookF, blOf, strsOf, dkL, Option.map_some, Option.map_none, List.map_cons, List.map_nil, List.getElem?_cons_succ, List.getElem?_cons_zero, List.set_cons_succ, List.set_cons_zero, List.cons_append, List.nil_append, List.length_cons, List.length_nil, Nat.reduceSub, List.reduceReplicate, List.replicate_succ, List.replicate_zero, true_and, and_true, if_true, if_false, Nat.reduceAdd, reduceCtorEq, Nat.zero_add, List.append_nil, ite_true, ite_false, Bool.false_eq_true, Bool.true_eq_false, Nat.reduceMul, Bool.and_true, Bool.true_and, Bool.not_true, Bool.not_false, List.all_cons, List.all_nil]
      exact hk
  simp only [kit_str, fnS, inS, sNext, sRet, sRetO, sRetN, sIf, sSet, sSetV, sApp, sFrz, sCell, sPar, sPar3, sTgt, sFor, sWhile, sPut, sTry, sRaise, sExpr, sBrk, sCnt, eName, eC, eOp, eTup, eLst, aNil, aCons, aStar, eIf, eAnd, eOr, eNot, tB, L3.b1, tTru, tAnd', tOr', tNot', eGet, eSl, oNone, oSome, eCall, eFn, iAny, walked, iR1, iR2, iEn, iZp, gN, gTup', gCons', gNil', eLc, wipeD, tYes', eJoin, eSplit, eRepl, eDct, pSem, ePop0, eDZ, eMake, eFld, eFldO, sFldO, eProp, eMeth, eNeg, eRNe, eCh, Rv.d, tru, D.dk, getD', getL, atD, atS, asL, asK, seqOf, slD, cLen, lenD, cBools, cInt1, cBool1, cAbs, cMin2, cMax2, cList, cTuple, cIsi, tyN, cLenO, xNo, vw, D.cmp, cmpL, D.dep, depL, deq, deqL, D.isN, D.noCst, memD, opAdd, opSub, opMul, opMul', opDiv, opMod, opPow, opI2, opB2, opOrd, opLt, opLe, opGt, opGe, opEq, opNe, opIsN, opNotN, opIn, opNotIn, noOwn, Rv.own, lookF, blOf, strsOf, dkL, Option.map_some, Option.map_none, List.map_cons, List.map_nil, List.getElem?_cons_succ, List.getElem?_cons_zero, List.set_cons_succ, List.set_cons_zero, List.cons_append, List.nil_append, List.length_cons, List.length_nil, Nat.reduceSub, List.reduceReplicate, List.replicate_succ, List.replicate_zero, true_and, and_true, if_true, if_false, Nat.reduceAdd, reduceCtorEq, Nat.zero_add, List.append_nil, ite_true, ite_false, Bool.false_eq_true, Bool.true_eq_false, Nat.reduceMul, Bool.and_true, Bool.true_and, Bool.not_true, Bool.not_false, List.all_cons, List.all_nil]
  by_cases h1 : 1 ≤ s.length
  case neg =>
    have e : isTextD (.str s) = false := by simp [isTextD, isText, h1]
    rw [e] at hk
    rw [decide_eq_false (by omega)]
    exact hk
  rw [decide_eq_true (by omega)]
  simp only
  by_cases h4 : s.length ≤ 400
  case neg =>
    have e : isTextD (.str s) = false := by simp [isTextD, isText, h4]
    rw [e] at hk
    rw [if_pos (by rw [decide_eq_false (by omega)]; rfl)]
    exact hk
  rw [if_neg (by rw [decide_eq_true (by omega)]; decide)]
  refine hn _ _ ?_
  clear hn next
  have e : isTextD (.str s) = (s.any isSign && s.all okc) := by simp [isTextD, isText, h1, h4]
  rw [e] at hk
  refine seq_step fun next hn => ?_; simp only [fnS, inS, sNext, sRet, sRetO, sRetN, sIf, sSet, sSetV, sApp, sFrz, sCell, sPar, sPar3, sTgt, sFor, sWhile, sPut, sTry, sRaise, sExpr, sBrk, sCnt, eName, eC, eOp, eTup, eLst, aNil, aCons, aStar, eIf, eAnd, eOr, eNot, tB, L3.b1, tTru, tAnd', tOr', tNot', eGet, eSl, oNone, oSome, eCall, eFn, iAny, walked, iR1, iR2, iEn, iZp, gN, gTup', gCons', gNil', eLc, wipeD, tYes', eJoin, eSplit, eRepl, eDct, pSem, ePop0, eDZ, eMake, eFld, eFldO, sFldO, eProp, eMeth, eNeg, eRNe, eCh, Rv.d, tru, D.dk, getD', getL, atD, atS, asL, asK, seqOf, slD, cLen, lenD, cBools, cInt1, cBool1, cAbs, cMin2, cMax2, cList, cTuple, cIsi, tyN, cLenO, xNo, vw, D.cmp, cmpL, D.dep, depL, deq, deqL, D.isN, D.noCst, memD, opAdd, opSub, opMul, opMul', opDiv, opMod, opPow, opI2, opB2, opOrd, opLt, opLe, opGt, opGe, opEq, opNe, opIsN, opNotN, opIn, opNotIn, noOwn, Rv.own, lookF, blOf, strsOf, dkL, Option.map_some, Option.map_none, List.map_cons, List.map_nil, List.getElem?_cons_succ, List.getElem?_cons_zero, List.set_cons_succ, List.set_cons_zero, List.cons_append, List.nil_append, List.length_cons, List.length_nil, Nat.reduceSub, List.reduceReplicate, List.replicate_succ, List.replicate_zero, true_and, and_true, if_true, if_false, Nat.reduceAdd, reduceCtorEq, Nat.zero_add, List.append_nil, ite_true, ite_false, Bool.false_eq_true, Bool.true_eq_false, Nat.reduceMul, Bool.and_true, Bool.true_and, Bool.not_true, Bool.not_false, List.all_cons, List.all_nil]
  refine lc_filter (f := isSign) 2 (by simp) (by omega) (fun c kk h => ?_) ?_
  · simp only [fnS, inS, sNext, sRet, sRetO, sRetN, sIf, sSet, sSetV, sApp, sFrz, sCell, sPar, sPar3, sTgt, sFor, sWhile, sPut, sTry, sRaise, sExpr, sBrk, sCnt, eName, eC, eOp, eTup, eLst, aNil, aCons, aStar, eIf, eAnd, eOr, eNot, tB, L3.b1, tTru, tAnd', tOr', tNot', eGet, eSl, oNone, oSome, eCall, eFn, iAny, walked, iR1, iR2, iEn, iZp, gN, gTup', gCons', gNil', eLc, wipeD, tYes', eJoin, eSplit, eRepl, eDct, pSem, ePop0, eDZ, eMake, eFld, eFldO, sFldO, eProp, eMeth, eNeg, eRNe, eCh, Rv.d, tru, D.dk, getD', getL, atD, atS, asL, asK, seqOf, slD, cLen, lenD, cBools, cInt1, cBool1, cAbs, cMin2, cMax2, cList, cTuple, cIsi, tyN, cLenO, xNo, vw, D.cmp, cmpL, D.dep, depL, deq, deqL, D.isN, D.noCst, memD, opAdd, opSub, opMul, opMul', opDiv, opMod, opPow, opI2, opB2, opOrd, opLt, opLe, opGt, opGe, opEq, opNe, opIsN, opNotN, opIn, opNotIn, noOwn, Rv.own, lookF, blOf, strsOf, dkL, Option.map_some, Option.map_none, List.map_cons, List.map_nil, List.getElem?_cons_succ, List.getElem?_cons_zero, List.set_cons_succ, List.set_cons_zero, List.cons_append, List.nil_append, List.length_cons, List.length_nil, Nat.reduceSub, List.reduceReplicate, List.replicate_succ, List.replicate_zero, true_and, and_true, if_true, if_false, Nat.reduceAdd, reduceCtorEq, Nat.zero_add, List.append_nil, ite_true, ite_false, Bool.false_eq_true, Bool.true_eq_false, Nat.reduceMul, Bool.and_true, Bool.true_and, Bool.not_true, Bool.not_false, List.all_cons, List.all_nil]
    exact h _ (sign_mem c)
  refine hn _ _ ?_
  clear hn next
  simp only [fnS, inS, sNext, sRet, sRetO, sRetN, sIf, sSet, sSetV, sApp, sFrz, sCell, sPar, sPar3, sTgt, sFor, sWhile, sPut, sTry, sRaise, sExpr, sBrk, sCnt, eName, eC, eOp, eTup, eLst, aNil, aCons, aStar, eIf, eAnd, eOr, eNot, tB, L3.b1, tTru, tAnd', tOr', tNot', eGet, eSl, oNone, oSome, eCall, eFn, iAny, walked, iR1, iR2, iEn, iZp, gN, gTup', gCons', gNil', eLc, wipeD, tYes', eJoin, eSplit, eRepl, eDct, pSem, ePop0, eDZ, eMake, eFld, eFldO, sFldO, eProp, eMeth, eNeg, eRNe, eCh, Rv.d, tru, D.dk, getD', getL, atD, atS, asL, asK, seqOf, slD, cLen, lenD, cBools, cInt1, cBool1, cAbs, cMin2, cMax2, cList, cTuple, cIsi, tyN, cLenO, xNo, vw, D.cmp, cmpL, D.dep, depL, deq, deqL, D.isN, D.noCst, memD, opAdd, opSub, opMul, opMul', opDiv, opMod, opPow, opI2, opB2, opOrd, opLt, opLe, opGt, opGe, opEq, opNe, opIsN, opNotN, opIn, opNotIn, noOwn, Rv.own, lookF, blOf, strsOf, dkL, Option.map_some, Option.map_none, List.map_cons, List.map_nil, List.getElem?_cons_succ, List.getElem?_cons_zero, List.set_cons_succ, List.set_cons_zero, List.cons_append, List.nil_append, List.length_cons, List.length_nil, Nat.reduceSub, List.reduceReplicate, List.replicate_succ, List.replicate_zero, true_and, and_true, if_true, if_false, Nat.reduceAdd, reduceCtorEq, Nat.zero_add, List.append_nil, ite_true, ite_false, Bool.false_eq_true, Bool.true_eq_false, Nat.reduceMul, Bool.and_true, Bool.true_and, Bool.not_true, Bool.not_false, List.all_cons, List.all_nil, cmp_strs, dep_strs, deq_nil]
  refine ⟨sz (by decide), by decide, ?_⟩
  have e2 : (!(s.filter isSign).isEmpty) = s.any isSign := by
    have : (s.filter isSign).isEmpty = !s.any isSign := by
      clear hk e h1 h4 hl
      induction s with
      | nil => rfl
      | cons c r ih => simp only [List.filter_cons, List.any_cons]; by_cases q : isSign c = true <;> simp [q, ih]
    rw [this, Bool.not_not]
  rw [e2]
  refine ite2 (fun hs => ?_) (fun hs => ?_)
  case refine_2 =>
    rw [Bool.eq_false_iff.mpr hs] at hk
    exact hk
  rw [hs, Bool.true_and] at hk
  refine lc_filter (f := fun c => !okc c) 2 (by simp) (by omega) (fun c kk h => ?_) ?_
  · simp only [fnS, inS, sNext, sRet, sRetO, sRetN, sIf, sSet, sSetV, sApp, sFrz, sCell, sPar, sPar3, sTgt, sFor, sWhile, sPut, sTry, sRaise, sExpr, sBrk, sCnt, eName, eC, eOp, eTup, eLst, aNil, aCons, aStar, eIf, eAnd, eOr, eNot, tB, L3.b1, tTru, tAnd', tOr', tNot', eGet, eSl, oNone, oSome, eCall, eFn, iAny, walked, iR1, iR2, iEn, iZp, gN, gTup', gCons', gNil', eLc, wipeD, tYes', eJoin, eSplit, eRepl, eDct, pSem, ePop0, eDZ, eMake, eFld, eFldO, sFldO, eProp, eMeth, eNeg, eRNe, eCh, Rv.d, tru, D.dk, getD', getL, atD, atS, asL, asK, seqOf, slD, cLen, lenD, cBools, cInt1, cBool1, cAbs, cMin2, cMax2, cList, cTuple, cIsi, tyN, cLenO, xNo, vw, D.cmp, cmpL, D.dep, depL, deq, deqL, D.isN, D.noCst, memD, opAdd, opSub, opMul, opMul', opDiv, opMod, opPow, opI2, opB2, opOrd, opLt, opLe, opGt, opGe, opEq, opNe, opIsN, opNotN, opIn, opNotIn, noOwn, Rv.own, lookF, blOf, strsOf, dkL, Option.map_some, Option.map_none, List.map_cons, List.map_nil, List.getElem?_cons_succ, List.getElem?_cons_zero, List.set_cons_succ, List.set_cons_zero, List.cons_append, List.nil_append, List.length_cons, List.length_nil, Nat.reduceSub, List.reduceReplicate, List.replicate_succ, List.replicate_zero, true_and, and_true, if_true, if_false, Nat.reduceAdd, reduceCtorEq, Nat.zero_add, List.append_nil, ite_true, ite_false, Bool.false_eq_true, Bool.true_eq_false, Nat.reduceMul, Bool.and_true, Bool.true_and, Bool.not_true, Bool.not_false, List.all_cons, List.all_nil]
    refine h _ ?_
    have : decide (c ∈ [97, 98, 99, 100, 101, 102, 103, 104, 105, 106, 107, 108, 109, 110, 111, 112, 113, 114, 115, 116, 117, 118, 119, 120, 121, 122] ++ [46, 45]) = okc c := by
      rw [← sign_or]
      simp only [List.mem_append, Bool.decide_or]
    simp only [List.cons_append, List.nil_append] at this
    rw [this]
  simp only [fnS, inS, sNext, sRet, sRetO, sRetN, sIf, sSet, sSetV, sApp, sFrz, sCell, sPar, sPar3, sTgt, sFor, sWhile, sPut, sTry, sRaise, sExpr, sBrk, sCnt, eName, eC, eOp, eTup, eLst, aNil, aCons, aStar, eIf, eAnd, eOr, eNot, tB, L3.b1, tTru, tAnd', tOr', tNot', eGet, eSl, oNone, oSome, eCall, eFn, iAny, walked, iR1, iR2, iEn, iZp, gN, gTup', gCons', gNil', eLc, wipeD, tYes', eJoin, eSplit, eRepl, eDct, pSem, ePop0, eDZ, eMake, eFld, eFldO, sFldO, eProp, eMeth, eNeg, eRNe, eCh, Rv.d, tru, D.dk, getD', getL, atD, atS, asL, asK, seqOf, slD, cLen, lenD, cBools, cInt1, cBool1, cAbs, cMin2, cMax2, cList, cTuple, cIsi, tyN, cLenO, xNo, vw, D.cmp, cmpL, D.dep, depL, deq, deqL, D.isN, D.noCst, memD, opAdd, opSub, opMul, opMul', opDiv, opMod, opPow, opI2, opB2, opOrd, opLt, opLe, opGt, opGe, opEq, opNe, opIsN, opNotN, opIn, opNotIn, noOwn, Rv.own, lookF, blOf, strsOf, dkL, Option.map_some, Option.map_none, List.map_cons, List.map_nil, List.getElem?_cons_succ, List.getElem?_cons_zero, List.set_cons_succ, List.set_cons_zero, List.cons_append, List.nil_append, List.length_cons, List.length_nil, Nat.reduceSub, List.reduceReplicate, List.replicate_succ, List.replicate_zero, true_and, and_true, if_true, if_false, Nat.reduceAdd, reduceCtorEq, Nat.zero_add, List.append_nil, ite_true, ite_false, Bool.false_eq_true, Bool.true_eq_false, Nat.reduceMul, Bool.and_true, Bool.true_and, Bool.not_true, Bool.not_false, List.all_cons, List.all_nil, cmp_strs, dep_strs, deq_nil]
  refine ⟨sz (by decide), by decide, ?_⟩
  have e3 : (s.filter fun c => !okc c).isEmpty = s.all okc := by
    clear hk e e2 h1 h4 hl hs
    induction s with
    | nil => rfl
    | cons c r ih => simp only [List.filter_cons, List.all_cons]; by_cases q : okc c = true <;> simp [q, ih]
  rw [e3]
  exact hk
end L3

namespace L3
open PySem PySem.Spec L2
open PyProof.Rows hiding St
set_option autoImplicit false
/-! ### the normal form is made without an error -/
theorem p_root {s : List Nat} {μ : Mu} {k : KR} {x : KX} (hl : s.length ≤ 10000) (hk : ∀ r : List Nat, r.length ≤ s.length → k (.v (.str r)) μ) : f_root [.str s] μ k x := by
  simp only [f_root, fnS, inS, Option.map_some, Option.map_none, List.map_cons, List.map_nil, List.getElem?_cons_succ, List.getElem?_cons_zero, List.set_cons_succ, List.set_cons_zero, List.cons_append, List.nil_append, List.length_cons, List.length_nil, Nat.reduceSub, List.reduceReplicate, List.replicate_succ, List.replicate_zero, true_and, and_true, if_true, if_false, Nat.reduceAdd, reduceCtorEq, Nat.zero_add, List.append_nil, ite_true, ite_false, Bool.false_eq_true, Bool.true_eq_false, Nat.reduceMul, Bool.and_true, Bool.true_and, Bool.not_true, Bool.not_false, List.all_cons, List.all_nil]; unfold s_root
  refine seq_step fun next hn => ?_; simp only [fnS, inS, sNext, sRet, sRetO, sRetN, sIf, sSet, sSetV, sApp, sFrz, sCell, sPar, sPar3, sTgt, sFor, sWhile, sPut, sTry, sRaise, sExpr, sBrk, sCnt, eName, eC, eOp, eTup, eLst, aNil, aCons, aStar, eIf, eAnd, eOr, eNot, tB, L3.b1, tTru, tAnd', tOr', tNot', eGet, eSl, oNone, oSome, eCall, eFn, iAny, walked, iR1, iR2, iEn, iZp, gN, gTup', gCons', gNil', eLc, wipeD, tYes', eJoin, eSplit, eRepl, eDct, pSem, ePop0, eDZ, eMake, eFld, eFldO, sFldO, eProp, eMeth, eNeg, eRNe, eCh, Rv.d, tru, D.dk, getD', getL, atD, atS, asL, asK, seqOf, slD, cLen, lenD, cBools, cInt1, cBool1, cAbs, cMin2, cMax2, cList, cTuple, cIsi, tyN, cLenO, xNo, vw, D.cmp, cmpL, D.dep, depL, deq, deqL, D.isN, D.noCst, memD, opAdd, opSub, opMul, opMul', opDiv, opMod, opPow, opI2, opB2, opOrd, opLt, opLe, opGt, opGe, opEq, opNe, opIsN, opNotN, opIn, opNotIn, noOwn, Rv.own, lookF, blOf, strsOf, dkL, Option.map_some, Option.map_none, List.map_cons, List.map_nil, List.getElem?_cons_succ, List.getElem?_cons_zero, List.set_cons_succ, List.set_cons_zero, List.cons_append, List.nil_append, List.length_cons, List.length_nil, Nat.reduceSub, List.reduceReplicate, List.replicate_succ, List.replicate_zero, true_and, and_true, if_true, if_false, Nat.reduceAdd, reduceCtorEq, Nat.zero_add, List.append_nil, ite_true, ite_false, Bool.false_eq_true, Bool.true_eq_false, Nat.reduceMul, Bool.and_true, Bool.true_and, Bool.not_true, Bool.not_false, List.all_cons, List.all_nil]
  refine hn _ _ ?_
  clear hn next
  refine seq_step fun next hn => ?_; simp only [fnS, inS, sNext, sRet, sRetO, sRetN, sIf, sSet, sSetV, sApp, sFrz, sCell, sPar, sPar3, sTgt, sFor, sWhile, sPut, sTry, sRaise, sExpr, sBrk, sCnt, eName, eC, eOp, eTup, eLst, aNil, aCons, aStar, eIf, eAnd, eOr, eNot, tB, L3.b1, tTru, tAnd', tOr', tNot', eGet, eSl, oNone, oSome, eCall, eFn, iAny, walked, iR1, iR2, iEn, iZp, gN, gTup', gCons', gNil', eLc, wipeD, tYes', eJoin, eSplit, eRepl, eDct, pSem, ePop0, eDZ, eMake, eFld, eFldO, sFldO, eProp, eMeth, eNeg, eRNe, eCh, Rv.d, tru, D.dk, getD', getL, atD, atS, asL, asK, seqOf, slD, cLen, lenD, cBools, cInt1, cBool1, cAbs, cMin2, cMax2, cList, cTuple, cIsi, tyN, cLenO, xNo, vw, D.cmp, cmpL, D.dep, depL, deq, deqL, D.isN, D.noCst, memD, opAdd, opSub, opMul, opMul', opDiv, opMod, opPow, opI2, opB2, opOrd, opLt, opLe, opGt, opGe, opEq, opNe, opIsN, opNotN, opIn, opNotIn, noOwn, Rv.own, lookF, blOf, strsOf, dkL, Option.map_some, Option.map_none, List.map_cons, List.map_nil, List.getElem?_cons_succ, List.getElem?_cons_zero, List.set_cons_succ, List.set_cons_zero, List.cons_append, List.nil_append, List.length_cons, List.length_nil, Nat.reduceSub, List.reduceReplicate, List.replicate_succ, List.replicate_zero, true_and, and_true, if_true, if_false, Nat.reduceAdd, reduceCtorEq, Nat.zero_add, List.append_nil, ite_true, ite_false, Bool.false_eq_true, Bool.true_eq_false, Nat.reduceMul, Bool.and_true, Bool.true_and, Bool.not_true, Bool.not_false, List.all_cons, List.all_nil]
  refine while_ind (fun n δ μ' => μ' = μ ∧ ∃ (a b : Nat) (z : Option Rv), δ = [some (.v (.str s)), some (.v (.int a)), some (.v (.int b)), z] ∧ a ≤ 10000 ∧ 2 ≤ b ∧ b ≤ 20000 ∧ n = 2 * a - b + 1) _ ⟨rfl, s.length, 2, _, rfl, hl, by omega, by omega, rfl⟩ ?_
  rintro n δ μ' next2 ⟨rfl, a, b, z, rfl, ha, hb, hab, rfl⟩ ih
  simp only [fnS, inS, sNext, sRet, sRetO, sRetN, sIf, sSet, sSetV, sApp, sFrz, sCell, sPar, sPar3, sTgt, sFor, sWhile, sPut, sTry, sRaise, sExpr, sBrk, sCnt, eName, eC, eOp, eTup, eLst, aNil, aCons, aStar, eIf, eAnd, eOr, eNot, tB, L3.b1, tTru, tAnd', tOr', tNot', eGet, eSl, oNone, oSome, eCall, eFn, iAny, walked, iR1, iR2, iEn, iZp, gN, gTup', gCons', gNil', eLc, wipeD, tYes', eJoin, eSplit, eRepl, eDct, pSem, ePop0, eDZ, eMake, eFld, eFldO, sFldO, eProp, eMeth, eNeg, eRNe, eCh, Rv.d, tru, D.dk, getD', getL, atD, atS, asL, asK, seqOf, slD, cLen, lenD, cBools, cInt1, cBool1, cAbs, cMin2, cMax2, cList, cTuple, cIsi, tyN, cLenO, xNo, vw, D.cmp, cmpL, D.dep, depL, deq, deqL, D.isN, D.noCst, memD, opAdd, opSub, opMul, opMul', opDiv, opMod, opPow, opI2, opB2, opOrd, opLt, opLe, opGt, opGe, opEq, opNe, opIsN, opNotN, opIn, opNotIn, noOwn, Rv.own, lookF, blOf, strsOf, dkL, Option.map_some, Option.map_none, List.map_cons, List.map_nil, List.getElem?_cons_succ, List.getElem?_cons_zero, List.set_cons_succ, List.set_cons_zero, List.cons_append, List.nil_append, List.length_cons, List.length_nil, Nat.reduceSub, List.reduceReplicate, List.replicate_succ, List.replicate_zero, true_and, and_true, if_true, if_false, Nat.reduceAdd, reduceCtorEq, Nat.zero_add, List.append_nil, ite_true, ite_false, Bool.false_eq_true, Bool.true_eq_false, Nat.reduceMul, Bool.and_true, Bool.true_and, Bool.not_true, Bool.not_false, List.all_cons, List.all_nil]
  refine ite2 (fun hc => ?_) (fun hc => ?_)
  case refine_2 =>
    refine hn _ _ ?_
    simp only [fnS, inS, sNext, sRet, sRetO, sRetN, sIf, sSet, sSetV, sApp, sFrz, sCell, sPar, sPar3, sTgt, sFor, sWhile, sPut, sTry, sRaise, sExpr, sBrk, sCnt, eName, eC, eOp, eTup, eLst, aNil, aCons, aStar, eIf, eAnd, eOr, eNot, tB, L3.b1, tTru, tAnd', tOr', tNot', eGet, eSl, oNone, oSome, eCall, eFn, iAny, walked, iR1, iR2, iEn, iZp, gN, gTup', gCons', gNil', eLc, wipeD, tYes', eJoin, eSplit, eRepl, eDct, pSem, ePop0, eDZ, eMake, eFld, eFldO, sFldO, eProp, eMeth, eNeg, eRNe, eCh, Rv.d, tru, D.dk, getD', getL, atD, atS, asL, asK, seqOf, slD, cLen, lenD, cBools, cInt1, cBool1, cAbs, cMin2, cMax2, cList, cTuple, cIsi, tyN, cLenO, xNo, vw, D.cmp, cmpL, D.dep, depL, deq, deqL, D.isN, D.noCst, memD, opAdd, opSub, opMul, opMul', opDiv, opMod, opPow, opI2, opB2, opOrd, opLt, opLe, opGt, opGe, opEq, opNe, opIsN, opNotN, opIn, opNotIn, noOwn, Rv.own, lookF, blOf, strsOf, dkL, Option.map_some, Option.map_none, List.map_cons, List.map_nil, List.getElem?_cons_succ, List.getElem?_cons_zero, List.set_cons_succ, List.set_cons_zero, List.cons_append, List.nil_append, List.length_cons, List.length_nil, Nat.reduceSub, List.reduceReplicate, List.replicate_succ, List.replicate_zero, true_and, and_true, if_true, if_false, Nat.reduceAdd, reduceCtorEq, Nat.zero_add, List.append_nil, ite_true, ite_false, Bool.false_eq_true, Bool.true_eq_false, Nat.reduceMul, Bool.and_true, Bool.true_and, Bool.not_true, Bool.not_false, List.all_cons, List.all_nil]
    refine hk _ (cutD_len _ _ _)
  have hba : b ≤ a := by have := of_decide_eq_true hc; omega
  refine seq_step fun next3 hn3 => ?_
  simp only [fnS, inS, sNext, sRet, sRetO, sRetN, sIf, sSet, sSetV, sApp, sFrz, sCell, sPar, sPar3, sTgt, sFor, sWhile, sPut, sTry, sRaise, sExpr, sBrk, sCnt, eName, eC, eOp, eTup, eLst, aNil, aCons, aStar, eIf, eAnd, eOr, eNot, tB, L3.b1, tTru, tAnd', tOr', tNot', eGet, eSl, oNone, oSome, eCall, eFn, iAny, walked, iR1, iR2, iEn, iZp, gN, gTup', gCons', gNil', eLc, wipeD, tYes', eJoin, eSplit, eRepl, eDct, pSem, ePop0, eDZ, eMake, eFld, eFldO, sFldO, eProp, eMeth, eNeg, eRNe, eCh, Rv.d, tru, D.dk, getD', getL, atD, atS, asL, asK, seqOf, slD, cLen, lenD, cBools, cInt1, cBool1, cAbs, cMin2, cMax2, cList, cTuple, cIsi, tyN, cLenO, xNo, vw, D.cmp, cmpL, D.dep, depL, deq, deqL, D.isN, D.noCst, memD, opAdd, opSub, opMul, opMul', opDiv, opMod, opPow, opI2, opB2, opOrd, opLt, opLe, opGt, opGe, opEq, opNe, opIsN, opNotN, opIn, opNotIn, noOwn, Rv.own, lookF, blOf, strsOf, dkL, Option.map_some, Option.map_none, List.map_cons, List.map_nil, List.getElem?_cons_succ, List.getElem?_cons_zero, List.set_cons_succ, List.set_cons_zero, List.cons_append, List.nil_append, List.length_cons, List.length_nil, Nat.reduceSub, List.reduceReplicate, List.replicate_succ, List.replicate_zero, true_and, and_true, if_true, if_false, Nat.reduceAdd, reduceCtorEq, Nat.zero_add, List.append_nil, ite_true, ite_false, Bool.false_eq_true, Bool.true_eq_false, Nat.reduceMul, Bool.and_true, Bool.true_and, Bool.not_true, Bool.not_false, List.all_cons, List.all_nil]
  refine ⟨⟨by omega, by omega⟩, hn3 _ _ ?_⟩
  clear hn3 next3
  have e1 : (a : Int) / (b : Int) = ((a / b : Nat) : Int) := by omega
  have l1 : a / b ≤ a := Nat.div_le_self a b
  have l2 : 2 * (a / b) ≤ a := by
    have := Nat.div_mul_le_self a b
    have h2 : (a / b) * 2 ≤ (a / b) * b := Nat.mul_le_mul_left _ hb
    omega
  rw [e1]
  simp only [fnS, inS, sNext, sRet, sRetO, sRetN, sIf, sSet, sSetV, sApp, sFrz, sCell, sPar, sPar3, sTgt, sFor, sWhile, sPut, sTry, sRaise, sExpr, sBrk, sCnt, eName, eC, eOp, eTup, eLst, aNil, aCons, aStar, eIf, eAnd, eOr, eNot, tB, L3.b1, tTru, tAnd', tOr', tNot', eGet, eSl, oNone, oSome, eCall, eFn, iAny, walked, iR1, iR2, iEn, iZp, gN, gTup', gCons', gNil', eLc, wipeD, tYes', eJoin, eSplit, eRepl, eDct, pSem, ePop0, eDZ, eMake, eFld, eFldO, sFldO, eProp, eMeth, eNeg, eRNe, eCh, Rv.d, tru, D.dk, getD', getL, atD, atS, asL, asK, seqOf, slD, cLen, lenD, cBools, cInt1, cBool1, cAbs, cMin2, cMax2, cList, cTuple, cIsi, tyN, cLenO, xNo, vw, D.cmp, cmpL, D.dep, depL, deq, deqL, D.isN, D.noCst, memD, opAdd, opSub, opMul, opMul', opDiv, opMod, opPow, opI2, opB2, opOrd, opLt, opLe, opGt, opGe, opEq, opNe, opIsN, opNotN, opIn, opNotIn, noOwn, Rv.own, lookF, blOf, strsOf, dkL, Option.map_some, Option.map_none, List.map_cons, List.map_nil, List.getElem?_cons_succ, List.getElem?_cons_zero, List.set_cons_succ, List.set_cons_zero, List.cons_append, List.nil_append, List.length_cons, List.length_nil, Nat.reduceSub, List.reduceReplicate, List.replicate_succ, List.replicate_zero, true_and, and_true, if_true, if_false, Nat.reduceAdd, reduceCtorEq, Nat.zero_add, List.append_nil, ite_true, ite_false, Bool.false_eq_true, Bool.true_eq_false, Nat.reduceMul, Bool.and_true, Bool.true_and, Bool.not_true, Bool.not_false, List.all_cons, List.all_nil]
  have no : next2 [some (.v (.str s)), some (.v (.int a)), some (.v (.int ((b : Int) + 1))), some (.v (.int ((a / b : Nat) : Int)))] μ' :=
    ih _ _ _ (by omega) ⟨rfl, a, b + 1, _, rfl, ha, by omega, by omega, rfl⟩
  refine ⟨by omega, by decide, ite2 (fun _ => ?_) (fun _ => no)⟩
  refine ⟨by decide, ite2 (fun _ => ?_) (fun _ => no)⟩
  exact ih _ _ _ (by omega) ⟨rfl, a / b, b, _, rfl, by omega, hb, by omega, rfl⟩
end L3

namespace L3
open PySem PySem.Spec L2
open PyProof.Rows hiding St
set_option autoImplicit false
def keptAt : Nat → List (List Nat × Bool) → List Int
  | _, [] => []
  | n, (_, b) :: r => if b = true then (n : Int) :: keptAt (n + 1) r else keptAt (n + 1) r
def gapsL : List Nat → List (List Nat × Bool) → List (List Nat)
  | acc, [] => [acc]
  | acc, (c, b) :: r => if b = true then (acc ++ c) :: gapsL [] r else gapsL (acc ++ c) r
theorem keptAt_len : ∀ (n : Nat) (l : List (List Nat × Bool)), (keptAt n l).length ≤ l.length
  | _, [] => Nat.le_refl _
  | n, (c, b) :: r => by
    have := keptAt_len (n + 1) r
    unfold keptAt
    split <;> simp only [List.length_cons] <;> omega
theorem p_places {l : List (List Nat × Bool)} {μ : Mu} {k : KR} {x : KX} (hl : l.length ≤ 10000) (hk : k (.ol ((keptAt 0 l).map .int)) μ) : f_places [.lst (stD l)] μ k x := by
  simp only [f_places, fnS, inS, Option.map_some, Option.map_none, List.map_cons, List.map_nil, List.getElem?_cons_succ, List.getElem?_cons_zero, List.set_cons_succ, List.set_cons_zero, List.cons_append, List.nil_append, List.length_cons, List.length_nil, Nat.reduceSub, List.reduceReplicate, List.replicate_succ, List.replicate_zero, true_and, and_true, if_true, if_false, Nat.reduceAdd, reduceCtorEq, Nat.zero_add, List.append_nil, ite_true, ite_false, Bool.false_eq_true, Bool.true_eq_false, Nat.reduceMul, Bool.and_true, Bool.true_and, Bool.not_true, Bool.not_false, List.all_cons, List.all_nil]; unfold s_places
  simp only [fnS, inS, sNext, sRet, sRetO, sRetN, sIf, sSet, sSetV, sApp, sFrz, sCell, sPar, sPar3, sTgt, sFor, sWhile, sPut, sTry, sRaise, sExpr, sBrk, sCnt, eName, eC, eOp, eTup, eLst, aNil, aCons, aStar, eIf, eAnd, eOr, eNot, tB, L3.b1, tTru, tAnd', tOr', tNot', eGet, eSl, oNone, oSome, eCall, eFn, iAny, walked, iR1, iR2, iEn, iZp, gN, gTup', gCons', gNil', eLc, wipeD, tYes', eJoin, eSplit, eRepl, eDct, pSem, ePop0, eDZ, eMake, eFld, eFldO, sFldO, eProp, eMeth, eNeg, eRNe, eCh, Rv.d, tru, D.dk, getD', getL, atD, atS, asL, asK, seqOf, slD, cLen, lenD, cBools, cInt1, cBool1, cAbs, cMin2, cMax2, cList, cTuple, cIsi, tyN, cLenO, xNo, vw, D.cmp, cmpL, D.dep, depL, deq, deqL, D.isN, D.noCst, memD, opAdd, opSub, opMul, opMul', opDiv, opMod, opPow, opI2, opB2, opOrd, opLt, opLe, opGt, opGe, opEq, opNe, opIsN, opNotN, opIn, opNotIn, noOwn, Rv.own, lookF, blOf, strsOf, dkL, Option.map_some, Option.map_none, List.map_cons, List.map_nil, List.getElem?_cons_succ, List.getElem?_cons_zero, List.set_cons_succ, List.set_cons_zero, List.cons_append, List.nil_append, List.length_cons, List.length_nil, Nat.reduceSub, List.reduceReplicate, List.replicate_succ, List.replicate_zero, true_and, and_true, if_true, if_false, Nat.reduceAdd, reduceCtorEq, Nat.zero_add, List.append_nil, ite_true, ite_false, Bool.false_eq_true, Bool.true_eq_false, Nat.reduceMul, Bool.and_true, Bool.true_and, Bool.not_true, Bool.not_false, List.all_cons, List.all_nil]
  refine lcS_ind (R := fun ds acc μ' => μ' = μ ∧ ∃ (n : Nat) (r : List (List Nat × Bool)) (a : List Int), ds = enumFrom n (stD r) ∧ acc = a.map .int ∧ a ++ keptAt n r = keptAt 0 l ∧ a.length + r.length ≤ 10000) ?_ ?_ _ _ _ ⟨rfl, 0, l, [], rfl, rfl, rfl, by simpa using hl⟩
  · rintro acc μ' ⟨rfl, n, r, a, hr, rfl, he, _⟩
    cases r with
    | cons p r => simp [stD, enumFrom] at hr
    | nil =>
      simp only [keptAt, List.append_nil] at he
      rw [he]; exact hk
  · rintro d ds acc μ' next ⟨rfl, n, r, a, hr, rfl, he, hlen⟩ ih
    cases r with
    | nil => simp [stD, enumFrom] at hr
    | cons p r =>
      obtain ⟨c, b⟩ := p
      simp only [stD, List.map_cons, enumFrom, List.cons.injEq] at hr
      obtain ⟨rfl, rfl⟩ := hr
      simp only [fnS, inS, sNext, sRet, sRetO, sRetN, sIf, sSet, sSetV, sApp, sFrz, sCell, sPar, sPar3, sTgt, sFor, sWhile, sPut, sTry, sRaise, sExpr, sBrk, sCnt, eName, eC, eOp, eTup, eLst, aNil, aCons, aStar, eIf, eAnd, eOr, eNot, tB, L3.b1, tTru, tAnd', tOr', tNot', eGet, eSl, oNone, oSome, eCall, eFn, iAny, walked, iR1, iR2, iEn, iZp, gN, gTup', gCons', gNil', eLc, wipeD, tYes', eJoin, eSplit, eRepl, eDct, pSem, ePop0, eDZ, eMake, eFld, eFldO, sFldO, eProp, eMeth, eNeg, eRNe, eCh, Rv.d, tru, D.dk, getD', getL, atD, atS, asL, asK, seqOf, slD, cLen, lenD, cBools, cInt1, cBool1, cAbs, cMin2, cMax2, cList, cTuple, cIsi, tyN, cLenO, xNo, vw, D.cmp, cmpL, D.dep, depL, deq, deqL, D.isN, D.noCst, memD, opAdd, opSub, opMul, opMul', opDiv, opMod, opPow, opI2, opB2, opOrd, opLt, opLe, opGt, opGe, opEq, opNe, opIsN, opNotN, opIn, opNotIn, noOwn, Rv.own, lookF, blOf, strsOf, dkL, Option.map_some, Option.map_none, List.map_cons, List.map_nil, List.getElem?_cons_succ, List.getElem?_cons_zero, List.set_cons_succ, List.set_cons_zero, List.cons_append, List.nil_append, List.length_cons, List.length_nil, Nat.reduceSub, List.reduceReplicate, List.replicate_succ, List.replicate_zero, true_and, and_true, if_true, if_false, Nat.reduceAdd, reduceCtorEq, Nat.zero_add, List.append_nil, ite_true, ite_false, Bool.false_eq_true, Bool.true_eq_false, Nat.reduceMul, Bool.and_true, Bool.true_and, Bool.not_true, Bool.not_false, List.all_cons, List.all_nil]
      simp only [List.length_cons] at hlen
      have e : keptAt n ((c, b) :: r) = if b = true then (n : Int) :: keptAt (n + 1) r else keptAt (n + 1) r := rfl
      rw [e] at he
      refine ite2 (fun hb => ?_) (fun hb => ?_)
      · rw [if_pos hb] at he
        refine ⟨by rw [List.length_map, sizeLine_eq]; omega, ih _ _ ⟨rfl, n + 1, r, a ++ [(n : Int)], rfl, by simp, by simpa using he, by simp; omega⟩⟩
      · rw [if_neg hb] at he
        exact ih _ _ ⟨rfl, n + 1, r, a, rfl, rfl, he, by omega⟩
def tot (l : List (List Nat × Bool)) : Nat := (l.map fun p => p.1.length + 1).sum
theorem tot_cons (p : List Nat × Bool) (l : List (List Nat × Bool)) : tot (p :: l) = p.1.length + 1 + tot l := rfl
theorem tot_len : ∀ l : List (List Nat × Bool), l.length ≤ tot l
  | [] => Nat.le_refl _
  | p :: l => by rw [tot_cons, List.length_cons]; have := tot_len l; omega
theorem p_gaps {l : List (List Nat × Bool)} {μ : Mu} {k : KR} {x : KX} (hl : tot l ≤ 10000) (hk : k (.ol ((gapsL [] l).map .str)) μ) : f_gaps [.lst (stD l)] μ k x := by
  simp only [f_gaps, fnS, inS, Option.map_some, Option.map_none, List.map_cons, List.map_nil, List.getElem?_cons_succ, List.getElem?_cons_zero, List.set_cons_succ, List.set_cons_zero, List.cons_append, List.nil_append, List.length_cons, List.length_nil, Nat.reduceSub, List.reduceReplicate, List.replicate_succ, List.replicate_zero, true_and, and_true, if_true, if_false, Nat.reduceAdd, reduceCtorEq, Nat.zero_add, List.append_nil, ite_true, ite_false, Bool.false_eq_true, Bool.true_eq_false, Nat.reduceMul, Bool.and_true, Bool.true_and, Bool.not_true, Bool.not_false, List.all_cons, List.all_nil]; unfold s_gaps
  refine seq_step fun next hn => ?_; simp only [fnS, inS, sNext, sRet, sRetO, sRetN, sIf, sSet, sSetV, sApp, sFrz, sCell, sPar, sPar3, sTgt, sFor, sWhile, sPut, sTry, sRaise, sExpr, sBrk, sCnt, eName, eC, eOp, eTup, eLst, aNil, aCons, aStar, eIf, eAnd, eOr, eNot, tB, L3.b1, tTru, tAnd', tOr', tNot', eGet, eSl, oNone, oSome, eCall, eFn, iAny, walked, iR1, iR2, iEn, iZp, gN, gTup', gCons', gNil', eLc, wipeD, tYes', eJoin, eSplit, eRepl, eDct, pSem, ePop0, eDZ, eMake, eFld, eFldO, sFldO, eProp, eMeth, eNeg, eRNe, eCh, Rv.d, tru, D.dk, getD', getL, atD, atS, asL, asK, seqOf, slD, cLen, lenD, cBools, cInt1, cBool1, cAbs, cMin2, cMax2, cList, cTuple, cIsi, tyN, cLenO, xNo, vw, D.cmp, cmpL, D.dep, depL, deq, deqL, D.isN, D.noCst, memD, opAdd, opSub, opMul, opMul', opDiv, opMod, opPow, opI2, opB2, opOrd, opLt, opLe, opGt, opGe, opEq, opNe, opIsN, opNotN, opIn, opNotIn, noOwn, Rv.own, lookF, blOf, strsOf, dkL, Option.map_some, Option.map_none, List.map_cons, List.map_nil, List.getElem?_cons_succ, List.getElem?_cons_zero, List.set_cons_succ, List.set_cons_zero, List.cons_append, List.nil_append, List.length_cons, List.length_nil, Nat.reduceSub, List.reduceReplicate, List.replicate_succ, List.replicate_zero, true_and, and_true, if_true, if_false, Nat.reduceAdd, reduceCtorEq, Nat.zero_add, List.append_nil, ite_true, ite_false, Bool.false_eq_true, Bool.true_eq_false, Nat.reduceMul, Bool.and_true, Bool.true_and, Bool.not_true, Bool.not_false, List.all_cons, List.all_nil]
  refine ⟨sz (by decide), hn _ _ ?_⟩
  clear hn next
  refine seq_step fun next hn => ?_; simp only [fnS, inS, sNext, sRet, sRetO, sRetN, sIf, sSet, sSetV, sApp, sFrz, sCell, sPar, sPar3, sTgt, sFor, sWhile, sPut, sTry, sRaise, sExpr, sBrk, sCnt, eName, eC, eOp, eTup, eLst, aNil, aCons, aStar, eIf, eAnd, eOr, eNot, tB, L3.b1, tTru, tAnd', tOr', tNot', eGet, eSl, oNone, oSome, eCall, eFn, iAny, walked, iR1, iR2, iEn, iZp, gN, gTup', gCons', gNil', eLc, wipeD, tYes', eJoin, eSplit, eRepl, eDct, pSem, ePop0, eDZ, eMake, eFld, eFldO, sFldO, eProp, eMeth, eNeg, eRNe, eCh, Rv.d, tru, D.dk, getD', getL, atD, atS, asL, asK, seqOf, slD, cLen, lenD, cBools, cInt1, cBool1, cAbs, cMin2, cMax2, cList, cTuple, cIsi, tyN, cLenO, xNo, vw, D.cmp, cmpL, D.dep, depL, deq, deqL, D.isN, D.noCst, memD, opAdd, opSub, opMul, opMul', opDiv, opMod, opPow, opI2, opB2, opOrd, opLt, opLe, opGt, opGe, opEq, opNe, opIsN, opNotN, opIn, opNotIn, noOwn, Rv.own, lookF, blOf, strsOf, dkL, Option.map_some, Option.map_none, List.map_cons, List.map_nil, List.getElem?_cons_succ, List.getElem?_cons_zero, List.set_cons_succ, List.set_cons_zero, List.cons_append, List.nil_append, List.length_cons, List.length_nil, Nat.reduceSub, List.reduceReplicate, List.replicate_succ, List.replicate_zero, true_and, and_true, if_true, if_false, Nat.reduceAdd, reduceCtorEq, Nat.zero_add, List.append_nil, ite_true, ite_false, Bool.false_eq_true, Bool.true_eq_false, Nat.reduceMul, Bool.and_true, Bool.true_and, Bool.not_true, Bool.not_false, List.all_cons, List.all_nil]
  refine hn _ _ ?_
  clear hn next
  refine seq_step fun next hn => ?_; simp only [fnS, inS, sNext, sRet, sRetO, sRetN, sIf, sSet, sSetV, sApp, sFrz, sCell, sPar, sPar3, sTgt, sFor, sWhile, sPut, sTry, sRaise, sExpr, sBrk, sCnt, eName, eC, eOp, eTup, eLst, aNil, aCons, aStar, eIf, eAnd, eOr, eNot, tB, L3.b1, tTru, tAnd', tOr', tNot', eGet, eSl, oNone, oSome, eCall, eFn, iAny, walked, iR1, iR2, iEn, iZp, gN, gTup', gCons', gNil', eLc, wipeD, tYes', eJoin, eSplit, eRepl, eDct, pSem, ePop0, eDZ, eMake, eFld, eFldO, sFldO, eProp, eMeth, eNeg, eRNe, eCh, Rv.d, tru, D.dk, getD', getL, atD, atS, asL, asK, seqOf, slD, cLen, lenD, cBools, cInt1, cBool1, cAbs, cMin2, cMax2, cList, cTuple, cIsi, tyN, cLenO, xNo, vw, D.cmp, cmpL, D.dep, depL, deq, deqL, D.isN, D.noCst, memD, opAdd, opSub, opMul, opMul', opDiv, opMod, opPow, opI2, opB2, opOrd, opLt, opLe, opGt, opGe, opEq, opNe, opIsN, opNotN, opIn, opNotIn, noOwn, Rv.own, lookF, blOf, strsOf, dkL, Option.map_some, Option.map_none, List.map_cons, List.map_nil, List.getElem?_cons_succ, List.getElem?_cons_zero, List.set_cons_succ, List.set_cons_zero, List.cons_append, List.nil_append, List.length_cons, List.length_nil, Nat.reduceSub, List.reduceReplicate, List.replicate_succ, List.replicate_zero, true_and, and_true, if_true, if_false, Nat.reduceAdd, reduceCtorEq, Nat.zero_add, List.append_nil, ite_true, ite_false, Bool.false_eq_true, Bool.true_eq_false, Nat.reduceMul, Bool.and_true, Bool.true_and, Bool.not_true, Bool.not_false, List.all_cons, List.all_nil]
  refine forS_ind (R := fun ds δ μ' => μ' = μ ∧ ∃ (r : List (List Nat × Bool)) (w : List Nat) (a : List (List Nat)) (y z : Option Rv), ds = stD r ∧ δ = [some (.v (.lst (stD l))), some (.ol (a.map .str)), some (.v (.str w)), y, z] ∧ a ++ gapsL w r = gapsL [] l ∧ a.length + w.length + tot r ≤ 10000) ?_ ?_ _ _ _
    ⟨rfl, l, [], [], _, _, rfl, rfl, rfl, by simpa using hl⟩
  · rintro δ μ' ⟨rfl, r, w, a, y, z, hr, rfl, he, hlen⟩
    cases r with
    | cons p r => simp [stD] at hr
    | nil =>
      refine hn _ _ ?_
      simp only [fnS, inS, sNext, sRet, sRetO, sRetN, sIf, sSet, sSetV, sApp, sFrz, sCell, sPar, sPar3, sTgt, sFor, sWhile, sPut, sTry, sRaise, sExpr, sBrk, sCnt, eName, eC, eOp, eTup, eLst, aNil, aCons, aStar, eIf, eAnd, eOr, eNot, tB, L3.b1, tTru, tAnd', tOr', tNot', eGet, eSl, oNone, oSome, eCall, eFn, iAny, walked, iR1, iR2, iEn, iZp, gN, gTup', gCons', gNil', eLc, wipeD, tYes', eJoin, eSplit, eRepl, eDct, pSem, ePop0, eDZ, eMake, eFld, eFldO, sFldO, eProp, eMeth, eNeg, eRNe, eCh, Rv.d, tru, D.dk, getD', getL, atD, atS, asL, asK, seqOf, slD, cLen, lenD, cBools, cInt1, cBool1, cAbs, cMin2, cMax2, cList, cTuple, cIsi, tyN, cLenO, xNo, vw, D.cmp, cmpL, D.dep, depL, deq, deqL, D.isN, D.noCst, memD, opAdd, opSub, opMul, opMul', opDiv, opMod, opPow, opI2, opB2, opOrd, opLt, opLe, opGt, opGe, opEq, opNe, opIsN, opNotN, opIn, opNotIn, noOwn, Rv.own, lookF, blOf, strsOf, dkL, Option.map_some, Option.map_none, List.map_cons, List.map_nil, List.getElem?_cons_succ, List.getElem?_cons_zero, List.set_cons_succ, List.set_cons_zero, List.cons_append, List.nil_append, List.length_cons, List.length_nil, Nat.reduceSub, List.reduceReplicate, List.replicate_succ, List.replicate_zero, true_and, and_true, if_true, if_false, Nat.reduceAdd, reduceCtorEq, Nat.zero_add, List.append_nil, ite_true, ite_false, Bool.false_eq_true, Bool.true_eq_false, Nat.reduceMul, Bool.and_true, Bool.true_and, Bool.not_true, Bool.not_false, List.all_cons, List.all_nil]
      simp only [gapsL] at he
      refine ⟨by rw [List.length_append, List.length_map, sizeLine_eq]; simp only [List.length_cons, List.length_nil]; omega, ?_⟩
      rw [← he, List.map_append] at hk
      exact hk
  · rintro d ds δ μ' next2 ⟨rfl, r, w, a, y, z, hr, rfl, he, hlen⟩ ih
    cases r with
    | nil => simp [stD] at hr
    | cons p r =>
      obtain ⟨c, b⟩ := p
      simp only [stD, List.map_cons, List.cons.injEq] at hr
      obtain ⟨rfl, rfl⟩ := hr
      rw [tot_cons] at hlen
      simp only at hlen
      have e : gapsL w ((c, b) :: r) = if b = true then (w ++ c) :: gapsL [] r else gapsL (w ++ c) r := rfl
      rw [e] at he
      simp only [sSeq, fnS, inS, sNext, sRet, sRetO, sRetN, sIf, sSet, sSetV, sApp, sFrz, sCell, sPar, sPar3, sTgt, sFor, sWhile, sPut, sTry, sRaise, sExpr, sBrk, sCnt, eName, eC, eOp, eTup, eLst, aNil, aCons, aStar, eIf, eAnd, eOr, eNot, tB, L3.b1, tTru, tAnd', tOr', tNot', eGet, eSl, oNone, oSome, eCall, eFn, iAny, walked, iR1, iR2, iEn, iZp, gN, gTup', gCons', gNil', eLc, wipeD, tYes', eJoin, eSplit, eRepl, eDct, pSem, ePop0, eDZ, eMake, eFld, eFldO, sFldO, eProp, eMeth, eNeg, eRNe, eCh, Rv.d, tru, D.dk, getD', getL, atD, atS, asL, asK, seqOf, slD, cLen, lenD, cBools, cInt1, cBool1, cAbs, cMin2, cMax2, cList, cTuple, cIsi, tyN, cLenO, xNo, vw, D.cmp, cmpL, D.dep, depL, deq, deqL, D.isN, D.noCst, memD, opAdd, opSub, opMul, opMul', opDiv, opMod, opPow, opI2, opB2, opOrd, opLt, opLe, opGt, opGe, opEq, opNe, opIsN, opNotN, opIn, opNotIn, noOwn, Rv.own, lookF, blOf, strsOf, dkL, Option.map_some, Option.map_none, List.map_cons, List.map_nil, List.getElem?_cons_succ, List.getElem?_cons_zero, List.set_cons_succ, List.set_cons_zero, List.cons_append, List.nil_append, List.length_cons, List.length_nil, Nat.reduceSub, List.reduceReplicate, List.replicate_succ, List.replicate_zero, true_and, and_true, if_true, if_false, Nat.reduceAdd, reduceCtorEq, Nat.zero_add, List.append_nil, ite_true, ite_false, Bool.false_eq_true, Bool.true_eq_false, Nat.reduceMul, Bool.and_true, Bool.true_and, Bool.not_true, Bool.not_false, List.all_cons, List.all_nil]
      refine ⟨by rw [sizeLine_eq]; omega, ite2 (fun hb => ?_) (fun hb => ?_)⟩
      · rw [if_pos hb] at he
        refine ⟨by rw [List.length_map, sizeLine_eq]; omega, ih _ _ ⟨rfl, r, [], a ++ [w ++ c], some (.v (.str c)), some (.v (.bl b)), rfl, by simp, by simpa using he, by simp; omega⟩⟩
      · rw [if_neg hb] at he
        exact ih _ _ ⟨rfl, r, w ++ c, a, _, _, rfl, rfl, he, by simp; omega⟩
end L3

namespace L3
open PySem PySem.Spec L2
open PyProof.Rows hiding St
set_option autoImplicit false
theorem cutD_map {α β : Type} (f : α → β) (l : List α) (lo hi : Option Int) : cutD (l.map f) lo hi = (cutD l lo hi).map f := by
  unfold cutD
  rw [List.length_map, List.map_take, List.map_drop]
theorem cmp_txts : ∀ l : List (List Nat), cmpL (l.map .str) = true
  | [] => rfl
  | i :: l => by simp only [List.map_cons, cmpL, D.cmp, cmp_txts l, Bool.and_self]
theorem dep_txts : ∀ l : List (List Nat), depL (l.map .str) = 0
  | [] => rfl
  | i :: l => by simp only [List.map_cons, depL, D.dep, dep_txts l, Nat.max_self]
theorem p_is_periodic {is : List Int} {ts : List (List Nat)} {n p : Nat} {μ : Mu} {k : KR} {x : KX} (h1 : is.length ≤ 10000) (h2 : ts.length ≤ 10000) (h3 : 0 < n) (h4 : n ≤ 10000) (h5 : p ≤ 10000) (hk : ∀ b : Bool, k (.v (.bl b)) μ) :
    f_is_periodic [.lst (is.map .int), .lst (ts.map .str), .int n, .int p] μ k x := by
  simp only [f_is_periodic, fnS, inS, Option.map_some, Option.map_none, List.map_cons, List.map_nil, List.getElem?_cons_succ, List.getElem?_cons_zero, List.set_cons_succ, List.set_cons_zero, List.cons_append, List.nil_append, List.length_cons, List.length_nil, Nat.reduceSub, List.reduceReplicate, List.replicate_succ, List.replicate_zero, true_and, and_true, if_true, if_false, Nat.reduceAdd, reduceCtorEq, Nat.zero_add, List.append_nil, ite_true, ite_false, Bool.false_eq_true, Bool.true_eq_false, Nat.reduceMul, Bool.and_true, Bool.true_and, Bool.not_true, Bool.not_false, List.all_cons, List.all_nil]; unfold s_is_periodic
  have m1 : CMul ((is.length : Nat) : Int) (p : Int) := .inl ⟨by omega, by omega⟩
  refine seq_step fun next hn => ?_; simp only [fnS, inS, sNext, sRet, sRetO, sRetN, sIf, sSet, sSetV, sApp, sFrz, sCell, sPar, sPar3, sTgt, sFor, sWhile, sPut, sTry, sRaise, sExpr, sBrk, sCnt, eName, eC, eOp, eTup, eLst, aNil, aCons, aStar, eIf, eAnd, eOr, eNot, tB, L3.b1, tTru, tAnd', tOr', tNot', eGet, eSl, oNone, oSome, eCall, eFn, iAny, walked, iR1, iR2, iEn, iZp, gN, gTup', gCons', gNil', eLc, wipeD, tYes', eJoin, eSplit, eRepl, eDct, pSem, ePop0, eDZ, eMake, eFld, eFldO, sFldO, eProp, eMeth, eNeg, eRNe, eCh, Rv.d, tru, D.dk, getD', getL, atD, atS, asL, asK, seqOf, slD, cLen, lenD, cBools, cInt1, cBool1, cAbs, cMin2, cMax2, cList, cTuple, cIsi, tyN, cLenO, xNo, vw, D.cmp, cmpL, D.dep, depL, deq, deqL, D.isN, D.noCst, memD, opAdd, opSub, opMul, opMul', opDiv, opMod, opPow, opI2, opB2, opOrd, opLt, opLe, opGt, opGe, opEq, opNe, opIsN, opNotN, opIn, opNotIn, noOwn, Rv.own, lookF, blOf, strsOf, dkL, Option.map_some, Option.map_none, List.map_cons, List.map_nil, List.getElem?_cons_succ, List.getElem?_cons_zero, List.set_cons_succ, List.set_cons_zero, List.cons_append, List.nil_append, List.length_cons, List.length_nil, Nat.reduceSub, List.reduceReplicate, List.replicate_succ, List.replicate_zero, true_and, and_true, if_true, if_false, Nat.reduceAdd, reduceCtorEq, Nat.zero_add, List.append_nil, ite_true, ite_false, Bool.false_eq_true, Bool.true_eq_false, Nat.reduceMul, Bool.and_true, Bool.true_and, Bool.not_true, Bool.not_false, List.all_cons, List.all_nil]
  simp only [List.length_map]
  refine ⟨m1, by omega, by decide, ite2 (fun _ => hk _) (fun _ => hn _ _ ?_)⟩
  clear hn next
  refine seq_step fun next hn => ?_; simp only [fnS, inS, sNext, sRet, sRetO, sRetN, sIf, sSet, sSetV, sApp, sFrz, sCell, sPar, sPar3, sTgt, sFor, sWhile, sPut, sTry, sRaise, sExpr, sBrk, sCnt, eName, eC, eOp, eTup, eLst, aNil, aCons, aStar, eIf, eAnd, eOr, eNot, tB, L3.b1, tTru, tAnd', tOr', tNot', eGet, eSl, oNone, oSome, eCall, eFn, iAny, walked, iR1, iR2, iEn, iZp, gN, gTup', gCons', gNil', eLc, wipeD, tYes', eJoin, eSplit, eRepl, eDct, pSem, ePop0, eDZ, eMake, eFld, eFldO, sFldO, eProp, eMeth, eNeg, eRNe, eCh, Rv.d, tru, D.dk, getD', getL, atD, atS, asL, asK, seqOf, slD, cLen, lenD, cBools, cInt1, cBool1, cAbs, cMin2, cMax2, cList, cTuple, cIsi, tyN, cLenO, xNo, vw, D.cmp, cmpL, D.dep, depL, deq, deqL, D.isN, D.noCst, memD, opAdd, opSub, opMul, opMul', opDiv, opMod, opPow, opI2, opB2, opOrd, opLt, opLe, opGt, opGe, opEq, opNe, opIsN, opNotN, opIn, opNotIn, noOwn, Rv.own, lookF, blOf, strsOf, dkL, Option.map_some, Option.map_none, List.map_cons, List.map_nil, List.getElem?_cons_succ, List.getElem?_cons_zero, List.set_cons_succ, List.set_cons_zero, List.cons_append, List.nil_append, List.length_cons, List.length_nil, Nat.reduceSub, List.reduceReplicate, List.replicate_succ, List.replicate_zero, true_and, and_true, if_true, if_false, Nat.reduceAdd, reduceCtorEq, Nat.zero_add, List.append_nil, ite_true, ite_false, Bool.false_eq_true, Bool.true_eq_false, Nat.reduceMul, Bool.and_true, Bool.true_and, Bool.not_true, Bool.not_false, List.all_cons, List.all_nil]
  simp only [List.length_map]
  refine ⟨m1, ⟨by omega, by omega⟩, hn _ _ ?_⟩
  clear hn next
  refine seq_step fun next hn => ?_; simp only [fnS, inS, sNext, sRet, sRetO, sRetN, sIf, sSet, sSetV, sApp, sFrz, sCell, sPar, sPar3, sTgt, sFor, sWhile, sPut, sTry, sRaise, sExpr, sBrk, sCnt, eName, eC, eOp, eTup, eLst, aNil, aCons, aStar, eIf, eAnd, eOr, eNot, tB, L3.b1, tTru, tAnd', tOr', tNot', eGet, eSl, oNone, oSome, eCall, eFn, iAny, walked, iR1, iR2, iEn, iZp, gN, gTup', gCons', gNil', eLc, wipeD, tYes', eJoin, eSplit, eRepl, eDct, pSem, ePop0, eDZ, eMake, eFld, eFldO, sFldO, eProp, eMeth, eNeg, eRNe, eCh, Rv.d, tru, D.dk, getD', getL, atD, atS, asL, asK, seqOf, slD, cLen, lenD, cBools, cInt1, cBool1, cAbs, cMin2, cMax2, cList, cTuple, cIsi, tyN, cLenO, xNo, vw, D.cmp, cmpL, D.dep, depL, deq, deqL, D.isN, D.noCst, memD, opAdd, opSub, opMul, opMul', opDiv, opMod, opPow, opI2, opB2, opOrd, opLt, opLe, opGt, opGe, opEq, opNe, opIsN, opNotN, opIn, opNotIn, noOwn, Rv.own, lookF, blOf, strsOf, dkL, Option.map_some, Option.map_none, List.map_cons, List.map_nil, List.getElem?_cons_succ, List.getElem?_cons_zero, List.set_cons_succ, List.set_cons_zero, List.cons_append, List.nil_append, List.length_cons, List.length_nil, Nat.reduceSub, List.reduceReplicate, List.replicate_succ, List.replicate_zero, true_and, and_true, if_true, if_false, Nat.reduceAdd, reduceCtorEq, Nat.zero_add, List.append_nil, ite_true, ite_false, Bool.false_eq_true, Bool.true_eq_false, Nat.reduceMul, Bool.and_true, Bool.true_and, Bool.not_true, Bool.not_false, List.all_cons, List.all_nil]
  refine ⟨by decide, ite2 (fun _ => hk _) (fun _ => ?_)⟩
  simp only [cutD_map, List.length_map]
  generalize hq : ((is.length : Nat) : Int) * (p : Int) / (n : Int) = q
  refine lcS_ind (R := fun ds acc μ' => μ' = μ ∧ ∃ (r a : List Int), ds = r.map .int ∧ acc = a.map .int ∧ a.length + r.length ≤ 10000) ?_ ?_ _ _ _ ⟨rfl, _, [], rfl, rfl, by have := cutD_len is none (some ((is.length : Int) - q)); simp; omega⟩
  · rintro acc μ' ⟨rfl, r, a, hr, rfl, _⟩
    simp only [fnS, inS, sNext, sRet, sRetO, sRetN, sIf, sSet, sSetV, sApp, sFrz, sCell, sPar, sPar3, sTgt, sFor, sWhile, sPut, sTry, sRaise, sExpr, sBrk, sCnt, eName, eC, eOp, eTup, eLst, aNil, aCons, aStar, eIf, eAnd, eOr, eNot, tB, L3.b1, tTru, tAnd', tOr', tNot', eGet, eSl, oNone, oSome, eCall, eFn, iAny, walked, iR1, iR2, iEn, iZp, gN, gTup', gCons', gNil', eLc, wipeD, tYes', eJoin, eSplit, eRepl, eDct, pSem, ePop0, eDZ, eMake, eFld, eFldO, sFldO, eProp, eMeth, eNeg, eRNe, eCh, Rv.d, tru, D.dk, getD', getL, atD, atS, asL, asK, seqOf, slD, cLen, lenD, cBools, cInt1, cBool1, cAbs, cMin2, cMax2, cList, cTuple, cIsi, tyN, cLenO, xNo, vw, D.cmp, cmpL, D.dep, depL, deq, deqL, D.isN, D.noCst, memD, opAdd, opSub, opMul, opMul', opDiv, opMod, opPow, opI2, opB2, opOrd, opLt, opLe, opGt, opGe, opEq, opNe, opIsN, opNotN, opIn, opNotIn, noOwn, Rv.own, lookF, blOf, strsOf, dkL, Option.map_some, Option.map_none, List.map_cons, List.map_nil, List.getElem?_cons_succ, List.getElem?_cons_zero, List.set_cons_succ, List.set_cons_zero, List.cons_append, List.nil_append, List.length_cons, List.length_nil, Nat.reduceSub, List.reduceReplicate, List.replicate_succ, List.replicate_zero, true_and, and_true, if_true, if_false, Nat.reduceAdd, reduceCtorEq, Nat.zero_add, List.append_nil, ite_true, ite_false, Bool.false_eq_true, Bool.true_eq_false, Nat.reduceMul, Bool.and_true, Bool.true_and, Bool.not_true, Bool.not_false, List.all_cons, List.all_nil, cmp_ints, dep_ints]
    refine ⟨by decide, ite2 (fun _ => hk _) (fun _ => hn _ _ ?_)⟩
    clear hn next
    simp only [fnS, inS, sNext, sRet, sRetO, sRetN, sIf, sSet, sSetV, sApp, sFrz, sCell, sPar, sPar3, sTgt, sFor, sWhile, sPut, sTry, sRaise, sExpr, sBrk, sCnt, eName, eC, eOp, eTup, eLst, aNil, aCons, aStar, eIf, eAnd, eOr, eNot, tB, L3.b1, tTru, tAnd', tOr', tNot', eGet, eSl, oNone, oSome, eCall, eFn, iAny, walked, iR1, iR2, iEn, iZp, gN, gTup', gCons', gNil', eLc, wipeD, tYes', eJoin, eSplit, eRepl, eDct, pSem, ePop0, eDZ, eMake, eFld, eFldO, sFldO, eProp, eMeth, eNeg, eRNe, eCh, Rv.d, tru, D.dk, getD', getL, atD, atS, asL, asK, seqOf, slD, cLen, lenD, cBools, cInt1, cBool1, cAbs, cMin2, cMax2, cList, cTuple, cIsi, tyN, cLenO, xNo, vw, D.cmp, cmpL, D.dep, depL, deq, deqL, D.isN, D.noCst, memD, opAdd, opSub, opMul, opMul', opDiv, opMod, opPow, opI2, opB2, opOrd, opLt, opLe, opGt, opGe, opEq, opNe, opIsN, opNotN, opIn, opNotIn, noOwn, Rv.own, lookF, blOf, strsOf, dkL, Option.map_some, Option.map_none, List.map_cons, List.map_nil, List.getElem?_cons_succ, List.getElem?_cons_zero, List.set_cons_succ, List.set_cons_zero, List.cons_append, List.nil_append, List.length_cons, List.length_nil, Nat.reduceSub, List.reduceReplicate, List.replicate_succ, List.replicate_zero, true_and, and_true, if_true, if_false, Nat.reduceAdd, reduceCtorEq, Nat.zero_add, List.append_nil, ite_true, ite_false, Bool.false_eq_true, Bool.true_eq_false, Nat.reduceMul, Bool.and_true, Bool.true_and, Bool.not_true, Bool.not_false, List.all_cons, List.all_nil, cutD_map]
    have l1 := cutD_len ts (some q) none
    have l2 := cutD_len ts none (some q)
    refine ⟨by rw [List.length_map, List.length_map, sizeLine_eq]; omega, ?_⟩
    rw [← List.map_append]
    simp only [fnS, inS, sNext, sRet, sRetO, sRetN, sIf, sSet, sSetV, sApp, sFrz, sCell, sPar, sPar3, sTgt, sFor, sWhile, sPut, sTry, sRaise, sExpr, sBrk, sCnt, eName, eC, eOp, eTup, eLst, aNil, aCons, aStar, eIf, eAnd, eOr, eNot, tB, L3.b1, tTru, tAnd', tOr', tNot', eGet, eSl, oNone, oSome, eCall, eFn, iAny, walked, iR1, iR2, iEn, iZp, gN, gTup', gCons', gNil', eLc, wipeD, tYes', eJoin, eSplit, eRepl, eDct, pSem, ePop0, eDZ, eMake, eFld, eFldO, sFldO, eProp, eMeth, eNeg, eRNe, eCh, Rv.d, tru, D.dk, getD', getL, atD, atS, asL, asK, seqOf, slD, cLen, lenD, cBools, cInt1, cBool1, cAbs, cMin2, cMax2, cList, cTuple, cIsi, tyN, cLenO, xNo, vw, D.cmp, cmpL, D.dep, depL, deq, deqL, D.isN, D.noCst, memD, opAdd, opSub, opMul, opMul', opDiv, opMod, opPow, opI2, opB2, opOrd, opLt, opLe, opGt, opGe, opEq, opNe, opIsN, opNotN, opIn, opNotIn, noOwn, Rv.own, lookF, blOf, strsOf, dkL, Option.map_some, Option.map_none, List.map_cons, List.map_nil, List.getElem?_cons_succ, List.getElem?_cons_zero, List.set_cons_succ, List.set_cons_zero, List.cons_append, List.nil_append, List.length_cons, List.length_nil, Nat.reduceSub, List.reduceReplicate, List.replicate_succ, List.replicate_zero, true_and, and_true, if_true, if_false, Nat.reduceAdd, reduceCtorEq, Nat.zero_add, List.append_nil, ite_true, ite_false, Bool.false_eq_true, Bool.true_eq_false, Nat.reduceMul, Bool.and_true, Bool.true_and, Bool.not_true, Bool.not_false, List.all_cons, List.all_nil, cmp_txts, dep_txts]
    exact ⟨by decide, hk _⟩
  · rintro d ds acc μ' next2 ⟨rfl, r, a, hr, rfl, hlen⟩ ih
    cases r with
    | nil => simp at hr
    | cons i r =>
      simp only [List.map_cons, List.cons.injEq] at hr
      obtain ⟨rfl, rfl⟩ := hr
      simp only [List.length_cons] at hlen
      simp only [fnS, inS, sNext, sRet, sRetO, sRetN, sIf, sSet, sSetV, sApp, sFrz, sCell, sPar, sPar3, sTgt, sFor, sWhile, sPut, sTry, sRaise, sExpr, sBrk, sCnt, eName, eC, eOp, eTup, eLst, aNil, aCons, aStar, eIf, eAnd, eOr, eNot, tB, L3.b1, tTru, tAnd', tOr', tNot', eGet, eSl, oNone, oSome, eCall, eFn, iAny, walked, iR1, iR2, iEn, iZp, gN, gTup', gCons', gNil', eLc, wipeD, tYes', eJoin, eSplit, eRepl, eDct, pSem, ePop0, eDZ, eMake, eFld, eFldO, sFldO, eProp, eMeth, eNeg, eRNe, eCh, Rv.d, tru, D.dk, getD', getL, atD, atS, asL, asK, seqOf, slD, cLen, lenD, cBools, cInt1, cBool1, cAbs, cMin2, cMax2, cList, cTuple, cIsi, tyN, cLenO, xNo, vw, D.cmp, cmpL, D.dep, depL, deq, deqL, D.isN, D.noCst, memD, opAdd, opSub, opMul, opMul', opDiv, opMod, opPow, opI2, opB2, opOrd, opLt, opLe, opGt, opGe, opEq, opNe, opIsN, opNotN, opIn, opNotIn, noOwn, Rv.own, lookF, blOf, strsOf, dkL, Option.map_some, Option.map_none, List.map_cons, List.map_nil, List.getElem?_cons_succ, List.getElem?_cons_zero, List.set_cons_succ, List.set_cons_zero, List.cons_append, List.nil_append, List.length_cons, List.length_nil, Nat.reduceSub, List.reduceReplicate, List.replicate_succ, List.replicate_zero, true_and, and_true, if_true, if_false, Nat.reduceAdd, reduceCtorEq, Nat.zero_add, List.append_nil, ite_true, ite_false, Bool.false_eq_true, Bool.true_eq_false, Nat.reduceMul, Bool.and_true, Bool.true_and, Bool.not_true, Bool.not_false, List.all_cons, List.all_nil]
      exact ⟨by rw [List.length_map, sizeLine_eq]; omega, ih _ _ ⟨rfl, r, a ++ [i + (p : Int)], rfl, by simp, by simp; omega⟩⟩
theorem p_period_of {is : List Int} {ts : List (List Nat)} {n : Nat} {μ : Mu} {k : KR} {x : KX} (h1 : is.length ≤ 10000) (h2 : ts.length ≤ 10000) (h3 : 0 < n) (h4 : n ≤ 10000) (hk : ∀ p : Nat, p ≤ n → k (.v (.int p)) μ) :
    f_period_of [.lst (is.map .int), .lst (ts.map .str), .int n] μ k x := by
  simp only [f_period_of, fnS, inS, Option.map_some, Option.map_none, List.map_cons, List.map_nil, List.getElem?_cons_succ, List.getElem?_cons_zero, List.set_cons_succ, List.set_cons_zero, List.cons_append, List.nil_append, List.length_cons, List.length_nil, Nat.reduceSub, List.reduceReplicate, List.replicate_succ, List.replicate_zero, true_and, and_true, if_true, if_false, Nat.reduceAdd, reduceCtorEq, Nat.zero_add, List.append_nil, ite_true, ite_false, Bool.false_eq_true, Bool.true_eq_false, Nat.reduceMul, Bool.and_true, Bool.true_and, Bool.not_true, Bool.not_false, List.all_cons, List.all_nil]; unfold s_period_of
  refine seq_step fun next hn => ?_; simp only [fnS, inS, sNext, sRet, sRetO, sRetN, sIf, sSet, sSetV, sApp, sFrz, sCell, sPar, sPar3, sTgt, sFor, sWhile, sPut, sTry, sRaise, sExpr, sBrk, sCnt, eName, eC, eOp, eTup, eLst, aNil, aCons, aStar, eIf, eAnd, eOr, eNot, tB, L3.b1, tTru, tAnd', tOr', tNot', eGet, eSl, oNone, oSome, eCall, eFn, iAny, walked, iR1, iR2, iEn, iZp, gN, gTup', gCons', gNil', eLc, wipeD, tYes', eJoin, eSplit, eRepl, eDct, pSem, ePop0, eDZ, eMake, eFld, eFldO, sFldO, eProp, eMeth, eNeg, eRNe, eCh, Rv.d, tru, D.dk, getD', getL, atD, atS, asL, asK, seqOf, slD, cLen, lenD, cBools, cInt1, cBool1, cAbs, cMin2, cMax2, cList, cTuple, cIsi, tyN, cLenO, xNo, vw, D.cmp, cmpL, D.dep, depL, deq, deqL, D.isN, D.noCst, memD, opAdd, opSub, opMul, opMul', opDiv, opMod, opPow, opI2, opB2, opOrd, opLt, opLe, opGt, opGe, opEq, opNe, opIsN, opNotN, opIn, opNotIn, noOwn, Rv.own, lookF, blOf, strsOf, dkL, Option.map_some, Option.map_none, List.map_cons, List.map_nil, List.getElem?_cons_succ, List.getElem?_cons_zero, List.set_cons_succ, List.set_cons_zero, List.cons_append, List.nil_append, List.length_cons, List.length_nil, Nat.reduceSub, List.reduceReplicate, List.replicate_succ, List.replicate_zero, true_and, and_true, if_true, if_false, Nat.reduceAdd, reduceCtorEq, Nat.zero_add, List.append_nil, ite_true, ite_false, Bool.false_eq_true, Bool.true_eq_false, Nat.reduceMul, Bool.and_true, Bool.true_and, Bool.not_true, Bool.not_false, List.all_cons, List.all_nil]
  refine hn _ _ ?_
  clear hn next
  refine seq_step fun next hn => ?_; simp only [fnS, inS, sNext, sRet, sRetO, sRetN, sIf, sSet, sSetV, sApp, sFrz, sCell, sPar, sPar3, sTgt, sFor, sWhile, sPut, sTry, sRaise, sExpr, sBrk, sCnt, eName, eC, eOp, eTup, eLst, aNil, aCons, aStar, eIf, eAnd, eOr, eNot, tB, L3.b1, tTru, tAnd', tOr', tNot', eGet, eSl, oNone, oSome, eCall, eFn, iAny, walked, iR1, iR2, iEn, iZp, gN, gTup', gCons', gNil', eLc, wipeD, tYes', eJoin, eSplit, eRepl, eDct, pSem, ePop0, eDZ, eMake, eFld, eFldO, sFldO, eProp, eMeth, eNeg, eRNe, eCh, Rv.d, tru, D.dk, getD', getL, atD, atS, asL, asK, seqOf, slD, cLen, lenD, cBools, cInt1, cBool1, cAbs, cMin2, cMax2, cList, cTuple, cIsi, tyN, cLenO, xNo, vw, D.cmp, cmpL, D.dep, depL, deq, deqL, D.isN, D.noCst, memD, opAdd, opSub, opMul, opMul', opDiv, opMod, opPow, opI2, opB2, opOrd, opLt, opLe, opGt, opGe, opEq, opNe, opIsN, opNotN, opIn, opNotIn, noOwn, Rv.own, lookF, blOf, strsOf, dkL, Option.map_some, Option.map_none, List.map_cons, List.map_nil, List.getElem?_cons_succ, List.getElem?_cons_zero, List.set_cons_succ, List.set_cons_zero, List.cons_append, List.nil_append, List.length_cons, List.length_nil, Nat.reduceSub, List.reduceReplicate, List.replicate_succ, List.replicate_zero, true_and, and_true, if_true, if_false, Nat.reduceAdd, reduceCtorEq, Nat.zero_add, List.append_nil, ite_true, ite_false, Bool.false_eq_true, Bool.true_eq_false, Nat.reduceMul, Bool.and_true, Bool.true_and, Bool.not_true, Bool.not_false, List.all_cons, List.all_nil]
  refine while_ind (fun m δ μ' => μ' = μ ∧ ∃ (a b : Nat), δ = [some (.v (.lst (is.map .int))), some (.v (.lst (ts.map .str))), some (.v (.int n)), some (.v (.int a)), some (.v (.int b))] ∧ a ≤ n ∧ 2 ≤ b ∧ b ≤ 20000 ∧ m = 2 * a - b + 1) _ ⟨rfl, n, 2, rfl, Nat.le_refl _, by omega, by omega, rfl⟩ ?_
  rintro m δ μ' next2 ⟨rfl, a, b, rfl, ha, hb, hab, rfl⟩ ih
  simp only [fnS, inS, sNext, sRet, sRetO, sRetN, sIf, sSet, sSetV, sApp, sFrz, sCell, sPar, sPar3, sTgt, sFor, sWhile, sPut, sTry, sRaise, sExpr, sBrk, sCnt, eName, eC, eOp, eTup, eLst, aNil, aCons, aStar, eIf, eAnd, eOr, eNot, tB, L3.b1, tTru, tAnd', tOr', tNot', eGet, eSl, oNone, oSome, eCall, eFn, iAny, walked, iR1, iR2, iEn, iZp, gN, gTup', gCons', gNil', eLc, wipeD, tYes', eJoin, eSplit, eRepl, eDct, pSem, ePop0, eDZ, eMake, eFld, eFldO, sFldO, eProp, eMeth, eNeg, eRNe, eCh, Rv.d, tru, D.dk, getD', getL, atD, atS, asL, asK, seqOf, slD, cLen, lenD, cBools, cInt1, cBool1, cAbs, cMin2, cMax2, cList, cTuple, cIsi, tyN, cLenO, xNo, vw, D.cmp, cmpL, D.dep, depL, deq, deqL, D.isN, D.noCst, memD, opAdd, opSub, opMul, opMul', opDiv, opMod, opPow, opI2, opB2, opOrd, opLt, opLe, opGt, opGe, opEq, opNe, opIsN, opNotN, opIn, opNotIn, noOwn, Rv.own, lookF, blOf, strsOf, dkL, Option.map_some, Option.map_none, List.map_cons, List.map_nil, List.getElem?_cons_succ, List.getElem?_cons_zero, List.set_cons_succ, List.set_cons_zero, List.cons_append, List.nil_append, List.length_cons, List.length_nil, Nat.reduceSub, List.reduceReplicate, List.replicate_succ, List.replicate_zero, true_and, and_true, if_true, if_false, Nat.reduceAdd, reduceCtorEq, Nat.zero_add, List.append_nil, ite_true, ite_false, Bool.false_eq_true, Bool.true_eq_false, Nat.reduceMul, Bool.and_true, Bool.true_and, Bool.not_true, Bool.not_false, List.all_cons, List.all_nil]
  refine ite2 (fun hc => ?_) (fun hc => ?_)
  case refine_2 =>
    refine hn _ _ ?_
    simp only [fnS, inS, sNext, sRet, sRetO, sRetN, sIf, sSet, sSetV, sApp, sFrz, sCell, sPar, sPar3, sTgt, sFor, sWhile, sPut, sTry, sRaise, sExpr, sBrk, sCnt, eName, eC, eOp, eTup, eLst, aNil, aCons, aStar, eIf, eAnd, eOr, eNot, tB, L3.b1, tTru, tAnd', tOr', tNot', eGet, eSl, oNone, oSome, eCall, eFn, iAny, walked, iR1, iR2, iEn, iZp, gN, gTup', gCons', gNil', eLc, wipeD, tYes', eJoin, eSplit, eRepl, eDct, pSem, ePop0, eDZ, eMake, eFld, eFldO, sFldO, eProp, eMeth, eNeg, eRNe, eCh, Rv.d, tru, D.dk, getD', getL, atD, atS, asL, asK, seqOf, slD, cLen, lenD, cBools, cInt1, cBool1, cAbs, cMin2, cMax2, cList, cTuple, cIsi, tyN, cLenO, xNo, vw, D.cmp, cmpL, D.dep, depL, deq, deqL, D.isN, D.noCst, memD, opAdd, opSub, opMul, opMul', opDiv, opMod, opPow, opI2, opB2, opOrd, opLt, opLe, opGt, opGe, opEq, opNe, opIsN, opNotN, opIn, opNotIn, noOwn, Rv.own, lookF, blOf, strsOf, dkL, Option.map_some, Option.map_none, List.map_cons, List.map_nil, List.getElem?_cons_succ, List.getElem?_cons_zero, List.set_cons_succ, List.set_cons_zero, List.cons_append, List.nil_append, List.length_cons, List.length_nil, Nat.reduceSub, List.reduceReplicate, List.replicate_succ, List.replicate_zero, true_and, and_true, if_true, if_false, Nat.reduceAdd, reduceCtorEq, Nat.zero_add, List.append_nil, ite_true, ite_false, Bool.false_eq_true, Bool.true_eq_false, Nat.reduceMul, Bool.and_true, Bool.true_and, Bool.not_true, Bool.not_false, List.all_cons, List.all_nil]
    exact hk _ ha
  have hba : b ≤ a := by have := of_decide_eq_true hc; omega
  have e1 : (a : Int) / (b : Int) = ((a / b : Nat) : Int) := by omega
  have l1 : a / b ≤ a := Nat.div_le_self a b
  have l2 : 2 * (a / b) ≤ a := by
    have := Nat.div_mul_le_self a b
    have h2 : (a / b) * 2 ≤ (a / b) * b := Nat.mul_le_mul_left _ hb
    omega
  have no : next2 [some (.v (.lst (is.map .int))), some (.v (.lst (ts.map .str))), some (.v (.int n)), some (.v (.int a)), some (.v (.int ((b : Int) + 1)))] μ' :=
    ih _ _ _ (by omega) ⟨rfl, a, b + 1, rfl, ha, by omega, by omega, rfl⟩
  rw [e1]
  refine ⟨by omega, by decide, ite2 (fun _ => ?_) (fun _ => no)⟩
  refine ⟨⟨by omega, by omega⟩, ?_⟩
  refine p_is_periodic h1 h2 h3 h4 (by omega) fun c => ?_
  simp only [fnS, inS, sNext, sRet, sRetO, sRetN, sIf, sSet, sSetV, sApp, sFrz, sCell, sPar, sPar3, sTgt, sFor, sWhile, sPut, sTry, sRaise, sExpr, sBrk, sCnt, eName, eC, eOp, eTup, eLst, aNil, aCons, aStar, eIf, eAnd, eOr, eNot, tB, L3.b1, tTru, tAnd', tOr', tNot', eGet, eSl, oNone, oSome, eCall, eFn, iAny, walked, iR1, iR2, iEn, iZp, gN, gTup', gCons', gNil', eLc, wipeD, tYes', eJoin, eSplit, eRepl, eDct, pSem, ePop0, eDZ, eMake, eFld, eFldO, sFldO, eProp, eMeth, eNeg, eRNe, eCh, Rv.d, tru, D.dk, getD', getL, atD, atS, asL, asK, seqOf, slD, cLen, lenD, cBools, cInt1, cBool1, cAbs, cMin2, cMax2, cList, cTuple, cIsi, tyN, cLenO, xNo, vw, D.cmp, cmpL, D.dep, depL, deq, deqL, D.isN, D.noCst, memD, opAdd, opSub, opMul, opMul', opDiv, opMod, opPow, opI2, opB2, opOrd, opLt, opLe, opGt, opGe, opEq, opNe, opIsN, opNotN, opIn, opNotIn, noOwn, Rv.own, lookF, blOf, strsOf, dkL, Option.map_some, Option.map_none, List.map_cons, List.map_nil, List.getElem?_cons_succ, List.getElem?_cons_zero, List.set_cons_succ, List.set_cons_zero, List.cons_append, List.nil_append, List.length_cons, List.length_nil, Nat.reduceSub, List.reduceReplicate, List.replicate_succ, List.replicate_zero, true_and, and_true, if_true, if_false, Nat.reduceAdd, reduceCtorEq, Nat.zero_add, List.append_nil, ite_true, ite_false, Bool.false_eq_true, Bool.true_eq_false, Nat.reduceMul, Bool.and_true, Bool.true_and, Bool.not_true, Bool.not_false, List.all_cons, List.all_nil]
  refine ite2 (fun _ => ?_) (fun _ => no)
  exact ⟨⟨by omega, by omega⟩, ih _ _ _ (by omega) ⟨rfl, a / b, b, rfl, by omega, hb, by omega, rfl⟩⟩
end L3

namespace L3
open PySem PySem.Spec L2
open PyProof.Rows hiding St
set_option autoImplicit false
theorem gapsL_ne : ∀ (w : List Nat) (l : List (List Nat × Bool)), gapsL w l ≠ []
  | _, [] => by simp [gapsL]
  | w, (c, b) :: r => by
    unfold gapsL
    split
    · simp
    · exact gapsL_ne _ r
theorem gapsL_len : ∀ (w : List Nat) (l : List (List Nat × Bool)), (gapsL w l).length ≤ l.length + 1
  | _, [] => by simp [gapsL]
  | w, (c, b) :: r => by
    unfold gapsL
    split
    · have := gapsL_len [] r; simp only [List.length_cons]; omega
    · have := gapsL_len (w ++ c) r; simp only [List.length_cons]; omega
theorem gapsL_mem : ∀ (w : List Nat) (l : List (List Nat × Bool)), ∀ t ∈ gapsL w l, t.length ≤ w.length + tot l
  | _, [], t, h => by simp only [gapsL, List.mem_singleton] at h; subst h; omega
  | w, (c, b) :: r, t, h => by
    unfold gapsL at h
    rw [tot_cons]
    simp only
    split at h
    · rcases List.mem_cons.mp h with h | h
      · rw [h, List.length_append]; omega
      · have := gapsL_mem [] r t h; simp only [List.length_nil] at this; omega
    · have := gapsL_mem (w ++ c) r t h; rw [List.length_append] at this; omega
theorem setK_mem : ∀ {ks : List DK} {vs : List D} {j : DK} {d x : D}, x ∈ setK ks vs j d → x ∈ vs ∨ x = d
  | [], vs, _, _, _, h => by simp only [setK] at h; exact .inl h
  | _ :: _, [], _, _, _, h => by simp only [setK] at h; exact .inl h
  | k :: ks, v :: vs, j, d, x, h => by
    simp only [setK] at h
    split at h
    · rcases List.mem_cons.mp h with h | h
      · exact .inr h
      · exact .inl (List.mem_cons_of_mem _ h)
    · rcases List.mem_cons.mp h with h | h
      · exact .inl (by rw [h]; exact List.mem_cons_self)
      · exact (setK_mem h).imp (List.mem_cons_of_mem _) id
theorem mergeD_mem : ∀ {ps : List (DK × D)} {ks : List DK} {vs : List D} {x : D}, x ∈ (mergeD ks vs ps).2 → x ∈ vs ∨ x ∈ ps.map (·.2)
  | [], _, _, _, h => .inl h
  | (j, d) :: ps, ks, vs, x, h => by
    rcases mergeD_mem (ps := ps) h with h | h
    · unfold putD at h
      split at h
      · exact (setK_mem h).imp id fun e => by rw [e]; exact List.mem_cons_self
      · rcases List.mem_append.mp h with h | h
        · exact .inl h
        · exact .inr (by rw [show x = d by simpa using h]; exact List.mem_cons_self)
    · exact .inr (List.mem_cons_of_mem _ h)
theorem getK_mem : ∀ {ks : List DK} {vs : List D} {j : DK} {d : D}, getK ks vs j = some d → d ∈ vs
  | [], _, _, _, h => by simp [getK] at h
  | _ :: _, [], _, _, h => by simp [getK] at h
  | k :: ks, v :: vs, j, d, h => by
    simp only [getK] at h
    split at h
    · cases h; exact List.mem_cons_self
    · exact List.mem_cons_of_mem _ (getK_mem h)
theorem dkL_ints : ∀ l : List Int, dkL (l.map .int) = some (l.map .inl)
  | [] => rfl
  | i :: l => by simp only [List.map_cons, dkL, D.dk, Option.bind_some, dkL_ints l, Option.map_some]
theorem deq_nilI : ∀ l : List Int, deqL (l.map .int) [] = l.isEmpty
  | [] => rfl
  | i :: l => rfl
theorem strs_txts : ∀ l : List (List Nat), strsOf (l.map .str) = some l
  | [] => rfl
  | i :: l => by simp only [List.map_cons, strsOf, strs_txts l, Option.map_some]
theorem sum_le : ∀ a : List (List Nat), (∀ t ∈ a, t.length ≤ 1001) → (a.map List.length).sum ≤ 1001 * a.length
  | [], _ => by simp
  | t :: a, h => by
    have := sum_le a fun u hu => h u (List.mem_cons_of_mem _ hu)
    have := h t List.mem_cons_self
    simp only [List.map_cons, List.sum_cons, List.length_cons]
    omega
theorem p_normal_text {l : List (List Nat × Bool)} {tl : List Nat} {μ : Mu} {k : KR} {x : KX} (hl : tot l ≤ 1000) (ht : tl.length ≤ 1000) (hk : ∀ w : List Nat, k (.v (.str w)) μ) : f_normal_text [.lst (stD l), .str tl] μ k x := by
  simp only [f_normal_text, fnS, inS, Option.map_some, Option.map_none, List.map_cons, List.map_nil, List.getElem?_cons_succ, List.getElem?_cons_zero, List.set_cons_succ, List.set_cons_zero, List.cons_append, List.nil_append, List.length_cons, List.length_nil, Nat.reduceSub, List.reduceReplicate, List.replicate_succ, List.replicate_zero, true_and, and_true, if_true, if_false, Nat.reduceAdd, reduceCtorEq, Nat.zero_add, List.append_nil, ite_true, ite_false, Bool.false_eq_true, Bool.true_eq_false, Nat.reduceMul, Bool.and_true, Bool.true_and, Bool.not_true, Bool.not_false, List.all_cons, List.all_nil]; unfold s_normal_text
  refine seq_step fun next hn => ?_; simp only [fnS, inS, sNext, sRet, sRetO, sRetN, sIf, sSet, sSetV, sApp, sFrz, sCell, sPar, sPar3, sTgt, sFor, sWhile, sPut, sTry, sRaise, sExpr, sBrk, sCnt, eName, eC, eOp, eTup, eLst, aNil, aCons, aStar, eIf, eAnd, eOr, eNot, tB, L3.b1, tTru, tAnd', tOr', tNot', eGet, eSl, oNone, oSome, eCall, eFn, iAny, walked, iR1, iR2, iEn, iZp, gN, gTup', gCons', gNil', eLc, wipeD, tYes', eJoin, eSplit, eRepl, eDct, pSem, ePop0, eDZ, eMake, eFld, eFldO, sFldO, eProp, eMeth, eNeg, eRNe, eCh, Rv.d, tru, D.dk, getD', getL, atD, atS, asL, asK, seqOf, slD, cLen, lenD, cBools, cInt1, cBool1, cAbs, cMin2, cMax2, cList, cTuple, cIsi, tyN, cLenO, xNo, vw, D.cmp, cmpL, D.dep, depL, deq, deqL, D.isN, D.noCst, memD, opAdd, opSub, opMul, opMul', opDiv, opMod, opPow, opI2, opB2, opOrd, opLt, opLe, opGt, opGe, opEq, opNe, opIsN, opNotN, opIn, opNotIn, noOwn, Rv.own, lookF, blOf, strsOf, dkL, Option.map_some, Option.map_none, List.map_cons, List.map_nil, List.getElem?_cons_succ, List.getElem?_cons_zero, List.set_cons_succ, List.set_cons_zero, List.cons_append, List.nil_append, List.length_cons, List.length_nil, Nat.reduceSub, List.reduceReplicate, List.replicate_succ, List.replicate_zero, true_and, and_true, if_true, if_false, Nat.reduceAdd, reduceCtorEq, Nat.zero_add, List.append_nil, ite_true, ite_false, Bool.false_eq_true, Bool.true_eq_false, Nat.reduceMul, Bool.and_true, Bool.true_and, Bool.not_true, Bool.not_false, List.all_cons, List.all_nil]
  have hl0 := tot_len l
  refine p_places (by omega) ?_
  refine p_gaps (by omega) ?_
  refine hn _ _ ?_
  clear hn next
  simp only [fnS, inS, sNext, sRet, sRetO, sRetN, sIf, sSet, sSetV, sApp, sFrz, sCell, sPar, sPar3, sTgt, sFor, sWhile, sPut, sTry, sRaise, sExpr, sBrk, sCnt, eName, eC, eOp, eTup, eLst, aNil, aCons, aStar, eIf, eAnd, eOr, eNot, tB, L3.b1, tTru, tAnd', tOr', tNot', eGet, eSl, oNone, oSome, eCall, eFn, iAny, walked, iR1, iR2, iEn, iZp, gN, gTup', gCons', gNil', eLc, wipeD, tYes', eJoin, eSplit, eRepl, eDct, pSem, ePop0, eDZ, eMake, eFld, eFldO, sFldO, eProp, eMeth, eNeg, eRNe, eCh, Rv.d, tru, D.dk, getD', getL, atD, atS, asL, asK, seqOf, slD, cLen, lenD, cBools, cInt1, cBool1, cAbs, cMin2, cMax2, cList, cTuple, cIsi, tyN, cLenO, xNo, vw, D.cmp, cmpL, D.dep, depL, deq, deqL, D.isN, D.noCst, memD, opAdd, opSub, opMul, opMul', opDiv, opMod, opPow, opI2, opB2, opOrd, opLt, opLe, opGt, opGe, opEq, opNe, opIsN, opNotN, opIn, opNotIn, noOwn, Rv.own, lookF, blOf, strsOf, dkL, Option.map_some, Option.map_none, List.map_cons, List.map_nil, List.getElem?_cons_succ, List.getElem?_cons_zero, List.set_cons_succ, List.set_cons_zero, List.cons_append, List.nil_append, List.length_cons, List.length_nil, Nat.reduceSub, List.reduceReplicate, List.replicate_succ, List.replicate_zero, true_and, and_true, if_true, if_false, Nat.reduceAdd, reduceCtorEq, Nat.zero_add, List.append_nil, ite_true, ite_false, Bool.false_eq_true, Bool.true_eq_false, Nat.reduceMul, Bool.and_true, Bool.true_and, Bool.not_true, Bool.not_false, List.all_cons, List.all_nil]
  have hW := gapsL_ne [] l
  have hWl := gapsL_len [] l
  have hWm := gapsL_mem [] l
  generalize gapsL [] l = W at hW hWl hWm
  have hI := keptAt_len 0 l
  generalize hkk : keptAt 0 l = I at hI
  refine seq_step fun next hn => ?_; simp only [fnS, inS, sNext, sRet, sRetO, sRetN, sIf, sSet, sSetV, sApp, sFrz, sCell, sPar, sPar3, sTgt, sFor, sWhile, sPut, sTry, sRaise, sExpr, sBrk, sCnt, eName, eC, eOp, eTup, eLst, aNil, aCons, aStar, eIf, eAnd, eOr, eNot, tB, L3.b1, tTru, tAnd', tOr', tNot', eGet, eSl, oNone, oSome, eCall, eFn, iAny, walked, iR1, iR2, iEn, iZp, gN, gTup', gCons', gNil', eLc, wipeD, tYes', eJoin, eSplit, eRepl, eDct, pSem, ePop0, eDZ, eMake, eFld, eFldO, sFldO, eProp, eMeth, eNeg, eRNe, eCh, Rv.d, tru, D.dk, getD', getL, atD, atS, asL, asK, seqOf, slD, cLen, lenD, cBools, cInt1, cBool1, cAbs, cMin2, cMax2, cList, cTuple, cIsi, tyN, cLenO, xNo, vw, D.cmp, cmpL, D.dep, depL, deq, deqL, D.isN, D.noCst, memD, opAdd, opSub, opMul, opMul', opDiv, opMod, opPow, opI2, opB2, opOrd, opLt, opLe, opGt, opGe, opEq, opNe, opIsN, opNotN, opIn, opNotIn, noOwn, Rv.own, lookF, blOf, strsOf, dkL, Option.map_some, Option.map_none, List.map_cons, List.map_nil, List.getElem?_cons_succ, List.getElem?_cons_zero, List.set_cons_succ, List.set_cons_zero, List.cons_append, List.nil_append, List.length_cons, List.length_nil, Nat.reduceSub, List.reduceReplicate, List.replicate_succ, List.replicate_zero, true_and, and_true, if_true, if_false, Nat.reduceAdd, reduceCtorEq, Nat.zero_add, List.append_nil, ite_true, ite_false, Bool.false_eq_true, Bool.true_eq_false, Nat.reduceMul, Bool.and_true, Bool.true_and, Bool.not_true, Bool.not_false, List.all_cons, List.all_nil]
  have hWm : ∀ t ∈ W, t.length ≤ 1000 := fun t h => by have := hWm t h; simp only [List.length_nil] at this; omega
  have hlast : atI (W.map D.str) (-1) = some (.str (W.getLast hW)) := (atI_last (W.map D.str) (by simpa using hW)).trans (by rw [List.getLast_map])
  have hl1 := hWm _ (List.getLast_mem hW)
  rw [hlast]
  generalize W.getLast hW = L at hl1
  simp only [fnS, inS, sNext, sRet, sRetO, sRetN, sIf, sSet, sSetV, sApp, sFrz, sCell, sPar, sPar3, sTgt, sFor, sWhile, sPut, sTry, sRaise, sExpr, sBrk, sCnt, eName, eC, eOp, eTup, eLst, aNil, aCons, aStar, eIf, eAnd, eOr, eNot, tB, L3.b1, tTru, tAnd', tOr', tNot', eGet, eSl, oNone, oSome, eCall, eFn, iAny, walked, iR1, iR2, iEn, iZp, gN, gTup', gCons', gNil', eLc, wipeD, tYes', eJoin, eSplit, eRepl, eDct, pSem, ePop0, eDZ, eMake, eFld, eFldO, sFldO, eProp, eMeth, eNeg, eRNe, eCh, Rv.d, tru, D.dk, getD', getL, atD, atS, asL, asK, seqOf, slD, cLen, lenD, cBools, cInt1, cBool1, cAbs, cMin2, cMax2, cList, cTuple, cIsi, tyN, cLenO, xNo, vw, D.cmp, cmpL, D.dep, depL, deq, deqL, D.isN, D.noCst, memD, opAdd, opSub, opMul, opMul', opDiv, opMod, opPow, opI2, opB2, opOrd, opLt, opLe, opGt, opGe, opEq, opNe, opIsN, opNotN, opIn, opNotIn, noOwn, Rv.own, lookF, blOf, strsOf, dkL, Option.map_some, Option.map_none, List.map_cons, List.map_nil, List.getElem?_cons_succ, List.getElem?_cons_zero, List.set_cons_succ, List.set_cons_zero, List.cons_append, List.nil_append, List.length_cons, List.length_nil, Nat.reduceSub, List.reduceReplicate, List.replicate_succ, List.replicate_zero, true_and, and_true, if_true, if_false, Nat.reduceAdd, reduceCtorEq, Nat.zero_add, List.append_nil, ite_true, ite_false, Bool.false_eq_true, Bool.true_eq_false, Nat.reduceMul, Bool.and_true, Bool.true_and, Bool.not_true, Bool.not_false, List.all_cons, List.all_nil]
  refine ⟨by rw [sizeLine_eq]; omega, hn _ _ ?_⟩
  clear hn next
  refine seq_step fun next hn => ?_; simp only [fnS, inS, sNext, sRet, sRetO, sRetN, sIf, sSet, sSetV, sApp, sFrz, sCell, sPar, sPar3, sTgt, sFor, sWhile, sPut, sTry, sRaise, sExpr, sBrk, sCnt, eName, eC, eOp, eTup, eLst, aNil, aCons, aStar, eIf, eAnd, eOr, eNot, tB, L3.b1, tTru, tAnd', tOr', tNot', eGet, eSl, oNone, oSome, eCall, eFn, iAny, walked, iR1, iR2, iEn, iZp, gN, gTup', gCons', gNil', eLc, wipeD, tYes', eJoin, eSplit, eRepl, eDct, pSem, ePop0, eDZ, eMake, eFld, eFldO, sFldO, eProp, eMeth, eNeg, eRNe, eCh, Rv.d, tru, D.dk, getD', getL, atD, atS, asL, asK, seqOf, slD, cLen, lenD, cBools, cInt1, cBool1, cAbs, cMin2, cMax2, cList, cTuple, cIsi, tyN, cLenO, xNo, vw, D.cmp, cmpL, D.dep, depL, deq, deqL, D.isN, D.noCst, memD, opAdd, opSub, opMul, opMul', opDiv, opMod, opPow, opI2, opB2, opOrd, opLt, opLe, opGt, opGe, opEq, opNe, opIsN, opNotN, opIn, opNotIn, noOwn, Rv.own, lookF, blOf, strsOf, dkL, Option.map_some, Option.map_none, List.map_cons, List.map_nil, List.getElem?_cons_succ, List.getElem?_cons_zero, List.set_cons_succ, List.set_cons_zero, List.cons_append, List.nil_append, List.length_cons, List.length_nil, Nat.reduceSub, List.reduceReplicate, List.replicate_succ, List.replicate_zero, true_and, and_true, if_true, if_false, Nat.reduceAdd, reduceCtorEq, Nat.zero_add, List.append_nil, ite_true, ite_false, Bool.false_eq_true, Bool.true_eq_false, Nat.reduceMul, Bool.and_true, Bool.true_and, Bool.not_true, Bool.not_false, List.all_cons, List.all_nil]
  simp only [cmp_ints, dep_ints, deq_nilI]
  refine ⟨sz (by decide), trivial, by decide, ite2 (fun _ => ?_) (fun hne => hn _ _ ?_)⟩
  · refine p_root (by rw [List.length_append]; omega) fun r hr => ?_
    rw [List.length_append] at hr
    simp only [fnS, inS, sNext, sRet, sRetO, sRetN, sIf, sSet, sSetV, sApp, sFrz, sCell, sPar, sPar3, sTgt, sFor, sWhile, sPut, sTry, sRaise, sExpr, sBrk, sCnt, eName, eC, eOp, eTup, eLst, aNil, aCons, aStar, eIf, eAnd, eOr, eNot, tB, L3.b1, tTru, tAnd', tOr', tNot', eGet, eSl, oNone, oSome, eCall, eFn, iAny, walked, iR1, iR2, iEn, iZp, gN, gTup', gCons', gNil', eLc, wipeD, tYes', eJoin, eSplit, eRepl, eDct, pSem, ePop0, eDZ, eMake, eFld, eFldO, sFldO, eProp, eMeth, eNeg, eRNe, eCh, Rv.d, tru, D.dk, getD', getL, atD, atS, asL, asK, seqOf, slD, cLen, lenD, cBools, cInt1, cBool1, cAbs, cMin2, cMax2, cList, cTuple, cIsi, tyN, cLenO, xNo, vw, D.cmp, cmpL, D.dep, depL, deq, deqL, D.isN, D.noCst, memD, opAdd, opSub, opMul, opMul', opDiv, opMod, opPow, opI2, opB2, opOrd, opLt, opLe, opGt, opGe, opEq, opNe, opIsN, opNotN, opIn, opNotIn, noOwn, Rv.own, lookF, blOf, strsOf, dkL, Option.map_some, Option.map_none, List.map_cons, List.map_nil, List.getElem?_cons_succ, List.getElem?_cons_zero, List.set_cons_succ, List.set_cons_zero, List.cons_append, List.nil_append, List.length_cons, List.length_nil, Nat.reduceSub, List.reduceReplicate, List.replicate_succ, List.replicate_zero, true_and, and_true, if_true, if_false, Nat.reduceAdd, reduceCtorEq, Nat.zero_add, List.append_nil, ite_true, ite_false, Bool.false_eq_true, Bool.true_eq_false, Nat.reduceMul, Bool.and_true, Bool.true_and, Bool.not_true, Bool.not_false, List.all_cons, List.all_nil]
    exact ⟨by rw [sizeLine_eq]; omega, hk _⟩
  clear hn next
  have hI0 : 0 < l.length := by
    cases I with
    | nil => exact absurd rfl hne
    | cons i I => simp only [List.length_cons] at hI; omega
  refine seq_step fun next hn => ?_; simp only [fnS, inS, sNext, sRet, sRetO, sRetN, sIf, sSet, sSetV, sApp, sFrz, sCell, sPar, sPar3, sTgt, sFor, sWhile, sPut, sTry, sRaise, sExpr, sBrk, sCnt, eName, eC, eOp, eTup, eLst, aNil, aCons, aStar, eIf, eAnd, eOr, eNot, tB, L3.b1, tTru, tAnd', tOr', tNot', eGet, eSl, oNone, oSome, eCall, eFn, iAny, walked, iR1, iR2, iEn, iZp, gN, gTup', gCons', gNil', eLc, wipeD, tYes', eJoin, eSplit, eRepl, eDct, pSem, ePop0, eDZ, eMake, eFld, eFldO, sFldO, eProp, eMeth, eNeg, eRNe, eCh, Rv.d, tru, D.dk, getD', getL, atD, atS, asL, asK, seqOf, slD, cLen, lenD, cBools, cInt1, cBool1, cAbs, cMin2, cMax2, cList, cTuple, cIsi, tyN, cLenO, xNo, vw, D.cmp, cmpL, D.dep, depL, deq, deqL, D.isN, D.noCst, memD, opAdd, opSub, opMul, opMul', opDiv, opMod, opPow, opI2, opB2, opOrd, opLt, opLe, opGt, opGe, opEq, opNe, opIsN, opNotN, opIn, opNotIn, noOwn, Rv.own, lookF, blOf, strsOf, dkL, Option.map_some, Option.map_none, List.map_cons, List.map_nil, List.getElem?_cons_succ, List.getElem?_cons_zero, List.set_cons_succ, List.set_cons_zero, List.cons_append, List.nil_append, List.length_cons, List.length_nil, Nat.reduceSub, List.reduceReplicate, List.replicate_succ, List.replicate_zero, true_and, and_true, if_true, if_false, Nat.reduceAdd, reduceCtorEq, Nat.zero_add, List.append_nil, ite_true, ite_false, Bool.false_eq_true, Bool.true_eq_false, Nat.reduceMul, Bool.and_true, Bool.true_and, Bool.not_true, Bool.not_false, List.all_cons, List.all_nil]
  have h0 : atI (W.map D.str) 0 = some (.str (W.head hW)) := by
    cases W with
    | nil => exact absurd rfl hW
    | cons w W => simp [atI, ixN]
  rw [h0]
  have hh := hWm _ (List.head_mem hW)
  generalize W.head hW = F at hh
  simp only [fnS, inS, sNext, sRet, sRetO, sRetN, sIf, sSet, sSetV, sApp, sFrz, sCell, sPar, sPar3, sTgt, sFor, sWhile, sPut, sTry, sRaise, sExpr, sBrk, sCnt, eName, eC, eOp, eTup, eLst, aNil, aCons, aStar, eIf, eAnd, eOr, eNot, tB, L3.b1, tTru, tAnd', tOr', tNot', eGet, eSl, oNone, oSome, eCall, eFn, iAny, walked, iR1, iR2, iEn, iZp, gN, gTup', gCons', gNil', eLc, wipeD, tYes', eJoin, eSplit, eRepl, eDct, pSem, ePop0, eDZ, eMake, eFld, eFldO, sFldO, eProp, eMeth, eNeg, eRNe, eCh, Rv.d, tru, D.dk, getD', getL, atD, atS, asL, asK, seqOf, slD, cLen, lenD, cBools, cInt1, cBool1, cAbs, cMin2, cMax2, cList, cTuple, cIsi, tyN, cLenO, xNo, vw, D.cmp, cmpL, D.dep, depL, deq, deqL, D.isN, D.noCst, memD, opAdd, opSub, opMul, opMul', opDiv, opMod, opPow, opI2, opB2, opOrd, opLt, opLe, opGt, opGe, opEq, opNe, opIsN, opNotN, opIn, opNotIn, noOwn, Rv.own, lookF, blOf, strsOf, dkL, Option.map_some, Option.map_none, List.map_cons, List.map_nil, List.getElem?_cons_succ, List.getElem?_cons_zero, List.set_cons_succ, List.set_cons_zero, List.cons_append, List.nil_append, List.length_cons, List.length_nil, Nat.reduceSub, List.reduceReplicate, List.replicate_succ, List.replicate_zero, true_and, and_true, if_true, if_false, Nat.reduceAdd, reduceCtorEq, Nat.zero_add, List.append_nil, ite_true, ite_false, Bool.false_eq_true, Bool.true_eq_false, Nat.reduceMul, Bool.and_true, Bool.true_and, Bool.not_true, Bool.not_false, List.all_cons, List.all_nil]
  have hc := cutD_len W (some 1) (some (-1))
  rw [cutD_map]
  refine ⟨by rw [List.length_append, sizeLine_eq]; omega, by rw [List.length_map, sizeLine_eq]; omega, ?_⟩
  rw [show D.str (L ++ tl ++ F) :: (cutD W (some 1) (some (-1))).map D.str = ((L ++ tl ++ F) :: cutD W (some 1) (some (-1))).map D.str from rfl, show (stD l).length = l.length by simp [stD]]
  refine p_period_of (by omega) (by simp only [List.length_cons]; omega) hI0 (by omega) fun p hp => hn _ _ ?_
  clear hn next
  refine seq_step fun next hn => ?_; simp only [fnS, inS, sNext, sRet, sRetO, sRetN, sIf, sSet, sSetV, sApp, sFrz, sCell, sPar, sPar3, sTgt, sFor, sWhile, sPut, sTry, sRaise, sExpr, sBrk, sCnt, eName, eC, eOp, eTup, eLst, aNil, aCons, aStar, eIf, eAnd, eOr, eNot, tB, L3.b1, tTru, tAnd', tOr', tNot', eGet, eSl, oNone, oSome, eCall, eFn, iAny, walked, iR1, iR2, iEn, iZp, gN, gTup', gCons', gNil', eLc, wipeD, tYes', eJoin, eSplit, eRepl, eDct, pSem, ePop0, eDZ, eMake, eFld, eFldO, sFldO, eProp, eMeth, eNeg, eRNe, eCh, Rv.d, tru, D.dk, getD', getL, atD, atS, asL, asK, seqOf, slD, cLen, lenD, cBools, cInt1, cBool1, cAbs, cMin2, cMax2, cList, cTuple, cIsi, tyN, cLenO, xNo, vw, D.cmp, cmpL, D.dep, depL, deq, deqL, D.isN, D.noCst, memD, opAdd, opSub, opMul, opMul', opDiv, opMod, opPow, opI2, opB2, opOrd, opLt, opLe, opGt, opGe, opEq, opNe, opIsN, opNotN, opIn, opNotIn, noOwn, Rv.own, lookF, blOf, strsOf, dkL, Option.map_some, Option.map_none, List.map_cons, List.map_nil, List.getElem?_cons_succ, List.getElem?_cons_zero, List.set_cons_succ, List.set_cons_zero, List.cons_append, List.nil_append, List.length_cons, List.length_nil, Nat.reduceSub, List.reduceReplicate, List.replicate_succ, List.replicate_zero, true_and, and_true, if_true, if_false, Nat.reduceAdd, reduceCtorEq, Nat.zero_add, List.append_nil, ite_true, ite_false, Bool.false_eq_true, Bool.true_eq_false, Nat.reduceMul, Bool.and_true, Bool.true_and, Bool.not_true, Bool.not_false, List.all_cons, List.all_nil]
  rw [dkL_ints]
  refine hn _ _ ?_
  clear hn next
  simp only [fnS, inS, sNext, sRet, sRetO, sRetN, sIf, sSet, sSetV, sApp, sFrz, sCell, sPar, sPar3, sTgt, sFor, sWhile, sPut, sTry, sRaise, sExpr, sBrk, sCnt, eName, eC, eOp, eTup, eLst, aNil, aCons, aStar, eIf, eAnd, eOr, eNot, tB, L3.b1, tTru, tAnd', tOr', tNot', eGet, eSl, oNone, oSome, eCall, eFn, iAny, walked, iR1, iR2, iEn, iZp, gN, gTup', gCons', gNil', eLc, wipeD, tYes', eJoin, eSplit, eRepl, eDct, pSem, ePop0, eDZ, eMake, eFld, eFldO, sFldO, eProp, eMeth, eNeg, eRNe, eCh, Rv.d, tru, D.dk, getD', getL, atD, atS, asL, asK, seqOf, slD, cLen, lenD, cBools, cInt1, cBool1, cAbs, cMin2, cMax2, cList, cTuple, cIsi, tyN, cLenO, xNo, vw, D.cmp, cmpL, D.dep, depL, deq, deqL, D.isN, D.noCst, memD, opAdd, opSub, opMul, opMul', opDiv, opMod, opPow, opI2, opB2, opOrd, opLt, opLe, opGt, opGe, opEq, opNe, opIsN, opNotN, opIn, opNotIn, noOwn, Rv.own, lookF, blOf, strsOf, dkL, Option.map_some, Option.map_none, List.map_cons, List.map_nil, List.getElem?_cons_succ, List.getElem?_cons_zero, List.set_cons_succ, List.set_cons_zero, List.cons_append, List.nil_append, List.length_cons, List.length_nil, Nat.reduceSub, List.reduceReplicate, List.replicate_succ, List.replicate_zero, true_and, and_true, if_true, if_false, Nat.reduceAdd, reduceCtorEq, Nat.zero_add, List.append_nil, ite_true, ite_false, Bool.false_eq_true, Bool.true_eq_false, Nat.reduceMul, Bool.and_true, Bool.true_and, Bool.not_true, Bool.not_false, List.all_cons, List.all_nil]
  generalize hM : mergeD [] [] ((I.map Sum.inl).zip (W.map D.str)) = M
  have hMv : ∀ d ∈ M.2, ∃ t : List Nat, d = .str t ∧ t.length ≤ 1000 := fun d hd => by
    rw [← hM] at hd
    rcases mergeD_mem hd with h | h
    · simp at h
    · obtain ⟨q, hq, rfl⟩ := List.mem_map.mp h
      have := (List.of_mem_zip (show (q.1, q.2) ∈ _ from hq)).2
      obtain ⟨t, ht, e⟩ := List.mem_map.mp this
      exact ⟨t, e.symm, hWm t ht⟩
  refine ⟨by omega, by omega, ?_⟩
  refine lcS_ind (R := fun ds acc μ' => μ' = μ ∧ ∃ (a : List (List Nat)), acc = a.map .str ∧ (∀ t ∈ a, t.length ≤ 1001) ∧ a.length + ds.length ≤ 1000 ∧ ∀ d ∈ ds, ∃ i : Int, d = .int i) ?_ ?_ _ _ _ ⟨rfl, [], rfl, by simp, by rw [rangeD_len]; simp; omega, fun d hd => by obtain ⟨i, e, _⟩ := rangeD_int _ d hd; exact ⟨i, e⟩⟩
  · rintro acc μ' ⟨rfl, a, rfl, ha, hlen, _⟩
    rw [strs_txts]
    simp only [fnS, inS, sNext, sRet, sRetO, sRetN, sIf, sSet, sSetV, sApp, sFrz, sCell, sPar, sPar3, sTgt, sFor, sWhile, sPut, sTry, sRaise, sExpr, sBrk, sCnt, eName, eC, eOp, eTup, eLst, aNil, aCons, aStar, eIf, eAnd, eOr, eNot, tB, L3.b1, tTru, tAnd', tOr', tNot', eGet, eSl, oNone, oSome, eCall, eFn, iAny, walked, iR1, iR2, iEn, iZp, gN, gTup', gCons', gNil', eLc, wipeD, tYes', eJoin, eSplit, eRepl, eDct, pSem, ePop0, eDZ, eMake, eFld, eFldO, sFldO, eProp, eMeth, eNeg, eRNe, eCh, Rv.d, tru, D.dk, getD', getL, atD, atS, asL, asK, seqOf, slD, cLen, lenD, cBools, cInt1, cBool1, cAbs, cMin2, cMax2, cList, cTuple, cIsi, tyN, cLenO, xNo, vw, D.cmp, cmpL, D.dep, depL, deq, deqL, D.isN, D.noCst, memD, opAdd, opSub, opMul, opMul', opDiv, opMod, opPow, opI2, opB2, opOrd, opLt, opLe, opGt, opGe, opEq, opNe, opIsN, opNotN, opIn, opNotIn, noOwn, Rv.own, lookF, blOf, strsOf, dkL, Option.map_some, Option.map_none, List.map_cons, List.map_nil, List.getElem?_cons_succ, List.getElem?_cons_zero, List.set_cons_succ, List.set_cons_zero, List.cons_append, List.nil_append, List.length_cons, List.length_nil, Nat.reduceSub, List.reduceReplicate, List.replicate_succ, List.replicate_zero, true_and, and_true, if_true, if_false, Nat.reduceAdd, reduceCtorEq, Nat.zero_add, List.append_nil, ite_true, ite_false, Bool.false_eq_true, Bool.true_eq_false, Nat.reduceMul, Bool.and_true, Bool.true_and, Bool.not_true, Bool.not_false, List.all_cons, List.all_nil]
    have hs : (a.map List.length).sum ≤ 1001 * a.length := sum_le a ha
    have hg := glueD_len [] a
    simp only [List.length_nil] at hg hlen
    refine ⟨by rw [sizeLine_eq]; omega, by rw [List.length_append, sizeLine_eq]; omega, hk _⟩
  · rintro d ds acc μ' next ⟨rfl, a, rfl, ha, hlen, hd⟩ ih
    obtain ⟨i, rfl⟩ := hd d List.mem_cons_self
    simp only [List.length_cons] at hlen
    simp only [fnS, inS, sNext, sRet, sRetO, sRetN, sIf, sSet, sSetV, sApp, sFrz, sCell, sPar, sPar3, sTgt, sFor, sWhile, sPut, sTry, sRaise, sExpr, sBrk, sCnt, eName, eC, eOp, eTup, eLst, aNil, aCons, aStar, eIf, eAnd, eOr, eNot, tB, L3.b1, tTru, tAnd', tOr', tNot', eGet, eSl, oNone, oSome, eCall, eFn, iAny, walked, iR1, iR2, iEn, iZp, gN, gTup', gCons', gNil', eLc, wipeD, tYes', eJoin, eSplit, eRepl, eDct, pSem, ePop0, eDZ, eMake, eFld, eFldO, sFldO, eProp, eMeth, eNeg, eRNe, eCh, Rv.d, tru, D.dk, getD', getL, atD, atS, asL, asK, seqOf, slD, cLen, lenD, cBools, cInt1, cBool1, cAbs, cMin2, cMax2, cList, cTuple, cIsi, tyN, cLenO, xNo, vw, D.cmp, cmpL, D.dep, depL, deq, deqL, D.isN, D.noCst, memD, opAdd, opSub, opMul, opMul', opDiv, opMod, opPow, opI2, opB2, opOrd, opLt, opLe, opGt, opGe, opEq, opNe, opIsN, opNotN, opIn, opNotIn, noOwn, Rv.own, lookF, blOf, strsOf, dkL, Option.map_some, Option.map_none, List.map_cons, List.map_nil, List.getElem?_cons_succ, List.getElem?_cons_zero, List.set_cons_succ, List.set_cons_zero, List.cons_append, List.nil_append, List.length_cons, List.length_nil, Nat.reduceSub, List.reduceReplicate, List.replicate_succ, List.replicate_zero, true_and, and_true, if_true, if_false, Nat.reduceAdd, reduceCtorEq, Nat.zero_add, List.append_nil, ite_true, ite_false, Bool.false_eq_true, Bool.true_eq_false, Nat.reduceMul, Bool.and_true, Bool.true_and, Bool.not_true, Bool.not_false, List.all_cons, List.all_nil]
    have one : ∀ t : List Nat, t.length ≤ 1001 → (a.map D.str).length < sizeLine ∧ next (a.map D.str ++ [.str t]) μ' := fun t ht => ⟨by rw [List.length_map, sizeLine_eq]; omega, ih _ _ ⟨rfl, a ++ [t], by simp, fun u hu => by
      rcases List.mem_append.mp hu with h | h
      · exact ha u h
      · rw [show u = t by simpa using h]; exact ht, by simp; omega, fun d h => hd d (List.mem_cons_of_mem _ h)⟩⟩
    refine ite2 (fun hin => ?_) (fun _ => one [45] (by simp))
    obtain ⟨dv, hdv⟩ := Option.isSome_iff_exists.mp hin
    obtain ⟨t, rfl, htl⟩ := hMv _ (getK_mem hdv)
    rw [hdv]
    simp only [fnS, inS, sNext, sRet, sRetO, sRetN, sIf, sSet, sSetV, sApp, sFrz, sCell, sPar, sPar3, sTgt, sFor, sWhile, sPut, sTry, sRaise, sExpr, sBrk, sCnt, eName, eC, eOp, eTup, eLst, aNil, aCons, aStar, eIf, eAnd, eOr, eNot, tB, L3.b1, tTru, tAnd', tOr', tNot', eGet, eSl, oNone, oSome, eCall, eFn, iAny, walked, iR1, iR2, iEn, iZp, gN, gTup', gCons', gNil', eLc, wipeD, tYes', eJoin, eSplit, eRepl, eDct, pSem, ePop0, eDZ, eMake, eFld, eFldO, sFldO, eProp, eMeth, eNeg, eRNe, eCh, Rv.d, tru, D.dk, getD', getL, atD, atS, asL, asK, seqOf, slD, cLen, lenD, cBools, cInt1, cBool1, cAbs, cMin2, cMax2, cList, cTuple, cIsi, tyN, cLenO, xNo, vw, D.cmp, cmpL, D.dep, depL, deq, deqL, D.isN, D.noCst, memD, opAdd, opSub, opMul, opMul', opDiv, opMod, opPow, opI2, opB2, opOrd, opLt, opLe, opGt, opGe, opEq, opNe, opIsN, opNotN, opIn, opNotIn, noOwn, Rv.own, lookF, blOf, strsOf, dkL, Option.map_some, Option.map_none, List.map_cons, List.map_nil, List.getElem?_cons_succ, List.getElem?_cons_zero, List.set_cons_succ, List.set_cons_zero, List.cons_append, List.nil_append, List.length_cons, List.length_nil, Nat.reduceSub, List.reduceReplicate, List.replicate_succ, List.replicate_zero, true_and, and_true, if_true, if_false, Nat.reduceAdd, reduceCtorEq, Nat.zero_add, List.append_nil, ite_true, ite_false, Bool.false_eq_true, Bool.true_eq_false, Nat.reduceMul, Bool.and_true, Bool.true_and, Bool.not_true, Bool.not_false, List.all_cons, List.all_nil]
    exact ⟨by rw [sizeLine_eq]; omega, one _ (by rw [List.length_append]; simp only [List.length_cons, List.length_nil]; omega)⟩
end L3

namespace L3
open PySem PySem.Spec L2
open PyProof.Rows hiding St
set_option autoImplicit false
theorem parse_tot : ∀ (s acc : List Nat), tot (parse acc s).1 + (parse acc s).2.length = acc.length + s.length
  | [], acc => by simp [parse, tot]
  | c :: r, acc => by
    rw [parse_cons]
    split
    · have := parse_tot r []
      simp only [tot_cons, List.length_nil, List.length_cons] at this ⊢
      omega
    · have := parse_tot r (acc ++ [c])
      rw [List.length_append] at this
      simp only [List.length_nil, List.length_cons] at this ⊢
      omega
def patD (s w : List Nat) : D := .obj 3 [.str s, .lst (stD (parse [] s).1), .str (parse [] s).2, .str w]
theorem text_of {d : D} (hd : Drawn d) (h : isTextD d = true) : ∃ s, d = .str s ∧ s.length ≤ 400 := by
  rcases hd with hd | ⟨s, rfl, _⟩
  · rw [(odd_type hd []).2] at h; cases h
  · simp only [isTextD, isText, Bool.and_eq_true, decide_eq_true_eq] at h
    exact ⟨s, rfl, h.1.1.2⟩
theorem n_gp : ¬ (("given" : Str) = "parts") := by decide +kernel
theorem n_ge : ¬ (("given" : Str) = "end") := by decide +kernel
theorem n_pe : ¬ (("parts" : Str) = "end") := by decide +kernel
theorem p_init {d : D} {μ : Mu} {k : List D → Mu → Prop} {x : KX} (hd : Drawn d) (hx : isTextD d = false → x ⟨1, []⟩ μ) (hk : ∀ s w, d = .str s → isTextD d = true → k [.str s, .lst (stD (parse [] s).1), .str (parse [] s).2, .str w] μ) : f_Pattern_init [d] μ k x := by
  simp only [f_Pattern_init, fnS, inS, Option.map_some, Option.map_none, List.map_cons, List.map_nil, List.getElem?_cons_succ, List.getElem?_cons_zero, List.set_cons_succ, List.set_cons_zero, List.cons_append, List.nil_append, List.length_cons, List.length_nil, Nat.reduceSub, List.reduceReplicate, List.replicate_succ, List.replicate_zero, true_and, and_true, if_true, if_false, Nat.reduceAdd, reduceCtorEq, Nat.zero_add, List.append_nil, ite_true, ite_false, Bool.false_eq_true, Bool.true_eq_false, Nat.reduceMul, Bool.and_true, Bool.true_and, Bool.not_true, Bool.not_false, List.all_cons, List.all_nil]; unfold s_Pattern_init
  refine seq_step fun next hn => ?_; simp only [fnS, inS, sNext, sRet, sRetO, sRetN, sIf, sSet, sSetV, sApp, sFrz, sCell, sPar, sPar3, sTgt, sFor, sWhile, sPut, sTry, sRaise, sExpr, sBrk, sCnt, eName, eC, eOp, eTup, eLst, aNil, aCons, aStar, eIf, eAnd, eOr, eNot, tB, L3.b1, tTru, tAnd', tOr', tNot', eGet, eSl, oNone, oSome, eCall, eFn, iAny, walked, iR1, iR2, iEn, iZp, gN, gTup', gCons', gNil', eLc, wipeD, tYes', eJoin, eSplit, eRepl, eDct, pSem, ePop0, eDZ, eMake, eFld, eFldO, sFldO, eProp, eMeth, eNeg, eRNe, eCh, Rv.d, tru, D.dk, getD', getL, atD, atS, asL, asK, seqOf, slD, cLen, lenD, cBools, cInt1, cBool1, cAbs, cMin2, cMax2, cList, cTuple, cIsi, tyN, cLenO, xNo, vw, D.cmp, cmpL, D.dep, depL, deq, deqL, D.isN, D.noCst, memD, opAdd, opSub, opMul, opMul', opDiv, opMod, opPow, opI2, opB2, opOrd, opLt, opLe, opGt, opGe, opEq, opNe, opIsN, opNotN, opIn, opNotIn, noOwn, Rv.own, lookF, blOf, strsOf, dkL, Option.map_some, Option.map_none, List.map_cons, List.map_nil, List.getElem?_cons_succ, List.getElem?_cons_zero, List.set_cons_succ, List.set_cons_zero, List.cons_append, List.nil_append, List.length_cons, List.length_nil, Nat.reduceSub, List.reduceReplicate, List.replicate_succ, List.replicate_zero, true_and, and_true, if_true, if_false, Nat.reduceAdd, reduceCtorEq, Nat.zero_add, List.append_nil, ite_true, ite_false, Bool.false_eq_true, Bool.true_eq_false, Nat.reduceMul, Bool.and_true, Bool.true_and, Bool.not_true, Bool.not_false, List.all_cons, List.all_nil]
  refine p_is_text hd ?_
  simp only [fnS, inS, sNext, sRet, sRetO, sRetN, sIf, sSet, sSetV, sApp, sFrz, sCell, sPar, sPar3, sTgt, sFor, sWhile, sPut, sTry, sRaise, sExpr, sBrk, sCnt, eName, eC, eOp, eTup, eLst, aNil, aCons, aStar, eIf, eAnd, eOr, eNot, tB, L3.b1, tTru, tAnd', tOr', tNot', eGet, eSl, oNone, oSome, eCall, eFn, iAny, walked, iR1, iR2, iEn, iZp, gN, gTup', gCons', gNil', eLc, wipeD, tYes', eJoin, eSplit, eRepl, eDct, pSem, ePop0, eDZ, eMake, eFld, eFldO, sFldO, eProp, eMeth, eNeg, eRNe, eCh, Rv.d, tru, D.dk, getD', getL, atD, atS, asL, asK, seqOf, slD, cLen, lenD, cBools, cInt1, cBool1, cAbs, cMin2, cMax2, cList, cTuple, cIsi, tyN, cLenO, xNo, vw, D.cmp, cmpL, D.dep, depL, deq, deqL, D.isN, D.noCst, memD, opAdd, opSub, opMul, opMul', opDiv, opMod, opPow, opI2, opB2, opOrd, opLt, opLe, opGt, opGe, opEq, opNe, opIsN, opNotN, opIn, opNotIn, noOwn, Rv.own, lookF, blOf, strsOf, dkL, Option.map_some, Option.map_none, List.map_cons, List.map_nil, List.getElem?_cons_succ, List.getElem?_cons_zero, List.set_cons_succ, List.set_cons_zero, List.cons_append, List.nil_append, List.length_cons, List.length_nil, Nat.reduceSub, List.reduceReplicate, List.replicate_succ, List.replicate_zero, true_and, and_true, if_true, if_false, Nat.reduceAdd, reduceCtorEq, Nat.zero_add, List.append_nil, ite_true, ite_false, Bool.false_eq_true, Bool.true_eq_false, Nat.reduceMul, Bool.and_true, Bool.true_and, Bool.not_true, Bool.not_false, List.all_cons, List.all_nil]
  cases ht : isTextD d with
  | false => exact hx ht
  | true =>
    simp only [fnS, inS, sNext, sRet, sRetO, sRetN, sIf, sSet, sSetV, sApp, sFrz, sCell, sPar, sPar3, sTgt, sFor, sWhile, sPut, sTry, sRaise, sExpr, sBrk, sCnt, eName, eC, eOp, eTup, eLst, aNil, aCons, aStar, eIf, eAnd, eOr, eNot, tB, L3.b1, tTru, tAnd', tOr', tNot', eGet, eSl, oNone, oSome, eCall, eFn, iAny, walked, iR1, iR2, iEn, iZp, gN, gTup', gCons', gNil', eLc, wipeD, tYes', eJoin, eSplit, eRepl, eDct, pSem, ePop0, eDZ, eMake, eFld, eFldO, sFldO, eProp, eMeth, eNeg, eRNe, eCh, Rv.d, tru, D.dk, getD', getL, atD, atS, asL, asK, seqOf, slD, cLen, lenD, cBools, cInt1, cBool1, cAbs, cMin2, cMax2, cList, cTuple, cIsi, tyN, cLenO, xNo, vw, D.cmp, cmpL, D.dep, depL, deq, deqL, D.isN, D.noCst, memD, opAdd, opSub, opMul, opMul', opDiv, opMod, opPow, opI2, opB2, opOrd, opLt, opLe, opGt, opGe, opEq, opNe, opIsN, opNotN, opIn, opNotIn, noOwn, Rv.own, lookF, blOf, strsOf, dkL, Option.map_some, Option.map_none, List.map_cons, List.map_nil, List.getElem?_cons_succ, List.getElem?_cons_zero, List.set_cons_succ, List.set_cons_zero, List.cons_append, List.nil_append, List.length_cons, List.length_nil, Nat.reduceSub, List.reduceReplicate, List.replicate_succ, List.replicate_zero, true_and, and_true, if_true, if_false, Nat.reduceAdd, reduceCtorEq, Nat.zero_add, List.append_nil, ite_true, ite_false, Bool.false_eq_true, Bool.true_eq_false, Nat.reduceMul, Bool.and_true, Bool.true_and, Bool.not_true, Bool.not_false, List.all_cons, List.all_nil]
    refine hn _ _ ?_
    clear hn next
    obtain ⟨s, rfl, hl⟩ := text_of hd ht
    have hp := parse_tot s []
    simp only [List.length_nil, Nat.zero_add] at hp
    refine seq_step fun next hn => ?_; simp only [fnS, inS, sNext, sRet, sRetO, sRetN, sIf, sSet, sSetV, sApp, sFrz, sCell, sPar, sPar3, sTgt, sFor, sWhile, sPut, sTry, sRaise, sExpr, sBrk, sCnt, eName, eC, eOp, eTup, eLst, aNil, aCons, aStar, eIf, eAnd, eOr, eNot, tB, L3.b1, tTru, tAnd', tOr', tNot', eGet, eSl, oNone, oSome, eCall, eFn, iAny, walked, iR1, iR2, iEn, iZp, gN, gTup', gCons', gNil', eLc, wipeD, tYes', eJoin, eSplit, eRepl, eDct, pSem, ePop0, eDZ, eMake, eFld, eFldO, sFldO, eProp, eMeth, eNeg, eRNe, eCh, Rv.d, tru, D.dk, getD', getL, atD, atS, asL, asK, seqOf, slD, cLen, lenD, cBools, cInt1, cBool1, cAbs, cMin2, cMax2, cList, cTuple, cIsi, tyN, cLenO, xNo, vw, D.cmp, cmpL, D.dep, depL, deq, deqL, D.isN, D.noCst, memD, opAdd, opSub, opMul, opMul', opDiv, opMod, opPow, opI2, opB2, opOrd, opLt, opLe, opGt, opGe, opEq, opNe, opIsN, opNotN, opIn, opNotIn, noOwn, Rv.own, lookF, blOf, strsOf, dkL, Option.map_some, Option.map_none, List.map_cons, List.map_nil, List.getElem?_cons_succ, List.getElem?_cons_zero, List.set_cons_succ, List.set_cons_zero, List.cons_append, List.nil_append, List.length_cons, List.length_nil, Nat.reduceSub, List.reduceReplicate, List.replicate_succ, List.replicate_zero, true_and, and_true, if_true, if_false, Nat.reduceAdd, reduceCtorEq, Nat.zero_add, List.append_nil, ite_true, ite_false, Bool.false_eq_true, Bool.true_eq_false, Nat.reduceMul, Bool.and_true, Bool.true_and, Bool.not_true, Bool.not_false, List.all_cons, List.all_nil]
    refine ⟨rfl, hn _ _ ?_⟩
    clear hn next
    refine seq_step fun next hn => ?_; simp only [fnS, inS, sNext, sRet, sRetO, sRetN, sIf, sSet, sSetV, sApp, sFrz, sCell, sPar, sPar3, sTgt, sFor, sWhile, sPut, sTry, sRaise, sExpr, sBrk, sCnt, eName, eC, eOp, eTup, eLst, aNil, aCons, aStar, eIf, eAnd, eOr, eNot, tB, L3.b1, tTru, tAnd', tOr', tNot', eGet, eSl, oNone, oSome, eCall, eFn, iAny, walked, iR1, iR2, iEn, iZp, gN, gTup', gCons', gNil', eLc, wipeD, tYes', eJoin, eSplit, eRepl, eDct, pSem, ePop0, eDZ, eMake, eFld, eFldO, sFldO, eProp, eMeth, eNeg, eRNe, eCh, Rv.d, tru, D.dk, getD', getL, atD, atS, asL, asK, seqOf, slD, cLen, lenD, cBools, cInt1, cBool1, cAbs, cMin2, cMax2, cList, cTuple, cIsi, tyN, cLenO, xNo, vw, D.cmp, cmpL, D.dep, depL, deq, deqL, D.isN, D.noCst, memD, opAdd, opSub, opMul, opMul', opDiv, opMod, opPow, opI2, opB2, opOrd, opLt, opLe, opGt, opGe, opEq, opNe, opIsN, opNotN, opIn, opNotIn, noOwn, Rv.own, lookF, blOf, strsOf, dkL, Option.map_some, Option.map_none, List.map_cons, List.map_nil, List.getElem?_cons_succ, List.getElem?_cons_zero, List.set_cons_succ, List.set_cons_zero, List.cons_append, List.nil_append, List.length_cons, List.length_nil, Nat.reduceSub, List.reduceReplicate, List.replicate_succ, List.replicate_zero, true_and, and_true, if_true, if_false, Nat.reduceAdd, reduceCtorEq, Nat.zero_add, List.append_nil, ite_true, ite_false, Bool.false_eq_true, Bool.true_eq_false, Nat.reduceMul, Bool.and_true, Bool.true_and, Bool.not_true, Bool.not_false, List.all_cons, List.all_nil]
    refine p_steps_of (by omega) ⟨rfl, hn _ _ ?_⟩
    clear hn next
    refine seq_step fun next hn => ?_; simp only [fnS, inS, sNext, sRet, sRetO, sRetN, sIf, sSet, sSetV, sApp, sFrz, sCell, sPar, sPar3, sTgt, sFor, sWhile, sPut, sTry, sRaise, sExpr, sBrk, sCnt, eName, eC, eOp, eTup, eLst, aNil, aCons, aStar, eIf, eAnd, eOr, eNot, tB, L3.b1, tTru, tAnd', tOr', tNot', eGet, eSl, oNone, oSome, eCall, eFn, iAny, walked, iR1, iR2, iEn, iZp, gN, gTup', gCons', gNil', eLc, wipeD, tYes', eJoin, eSplit, eRepl, eDct, pSem, ePop0, eDZ, eMake, eFld, eFldO, sFldO, eProp, eMeth, eNeg, eRNe, eCh, Rv.d, tru, D.dk, getD', getL, atD, atS, asL, asK, seqOf, slD, cLen, lenD, cBools, cInt1, cBool1, cAbs, cMin2, cMax2, cList, cTuple, cIsi, tyN, cLenO, xNo, vw, D.cmp, cmpL, D.dep, depL, deq, deqL, D.isN, D.noCst, memD, opAdd, opSub, opMul, opMul', opDiv, opMod, opPow, opI2, opB2, opOrd, opLt, opLe, opGt, opGe, opEq, opNe, opIsN, opNotN, opIn, opNotIn, noOwn, Rv.own, lookF, blOf, strsOf, dkL, Option.map_some, Option.map_none, List.map_cons, List.map_nil, List.getElem?_cons_succ, List.getElem?_cons_zero, List.set_cons_succ, List.set_cons_zero, List.cons_append, List.nil_append, List.length_cons, List.length_nil, Nat.reduceSub, List.reduceReplicate, List.replicate_succ, List.replicate_zero, true_and, and_true, if_true, if_false, Nat.reduceAdd, reduceCtorEq, Nat.zero_add, List.append_nil, ite_true, ite_false, Bool.false_eq_true, Bool.true_eq_false, Nat.reduceMul, Bool.and_true, Bool.true_and, Bool.not_true, Bool.not_false, List.all_cons, List.all_nil]
    refine p_tail_of (by omega) ⟨rfl, hn _ _ ?_⟩
    clear hn next
    simp only [FN, fnS, inS, sNext, sRet, sRetO, sRetN, sIf, sSet, sSetV, sApp, sFrz, sCell, sPar, sPar3, sTgt, sFor, sWhile, sPut, sTry, sRaise, sExpr, sBrk, sCnt, eName, eC, eOp, eTup, eLst, aNil, aCons, aStar, eIf, eAnd, eOr, eNot, tB, L3.b1, tTru, tAnd', tOr', tNot', eGet, eSl, oNone, oSome, eCall, eFn, iAny, walked, iR1, iR2, iEn, iZp, gN, gTup', gCons', gNil', eLc, wipeD, tYes', eJoin, eSplit, eRepl, eDct, pSem, ePop0, eDZ, eMake, eFld, eFldO, sFldO, eProp, eMeth, eNeg, eRNe, eCh, Rv.d, tru, D.dk, getD', getL, atD, atS, asL, asK, seqOf, slD, cLen, lenD, cBools, cInt1, cBool1, cAbs, cMin2, cMax2, cList, cTuple, cIsi, tyN, cLenO, xNo, vw, D.cmp, cmpL, D.dep, depL, deq, deqL, D.isN, D.noCst, memD, opAdd, opSub, opMul, opMul', opDiv, opMod, opPow, opI2, opB2, opOrd, opLt, opLe, opGt, opGe, opEq, opNe, opIsN, opNotN, opIn, opNotIn, noOwn, Rv.own, lookF, blOf, strsOf, dkL, Option.map_some, Option.map_none, List.map_cons, List.map_nil, List.getElem?_cons_succ, List.getElem?_cons_zero, List.set_cons_succ, List.set_cons_zero, List.cons_append, List.nil_append, List.length_cons, List.length_nil, Nat.reduceSub, List.reduceReplicate, List.replicate_succ, List.replicate_zero, true_and, and_true, if_true, if_false, Nat.reduceAdd, reduceCtorEq, Nat.zero_add, List.append_nil, ite_true, ite_false, Bool.false_eq_true, Bool.true_eq_false, Nat.reduceMul, Bool.and_true, Bool.true_and, Bool.not_true, Bool.not_false, List.all_cons, List.all_nil]
    rw [if_neg n_gp, if_neg n_ge, if_neg n_pe]
    simp only [fnS, inS, sNext, sRet, sRetO, sRetN, sIf, sSet, sSetV, sApp, sFrz, sCell, sPar, sPar3, sTgt, sFor, sWhile, sPut, sTry, sRaise, sExpr, sBrk, sCnt, eName, eC, eOp, eTup, eLst, aNil, aCons, aStar, eIf, eAnd, eOr, eNot, tB, L3.b1, tTru, tAnd', tOr', tNot', eGet, eSl, oNone, oSome, eCall, eFn, iAny, walked, iR1, iR2, iEn, iZp, gN, gTup', gCons', gNil', eLc, wipeD, tYes', eJoin, eSplit, eRepl, eDct, pSem, ePop0, eDZ, eMake, eFld, eFldO, sFldO, eProp, eMeth, eNeg, eRNe, eCh, Rv.d, tru, D.dk, getD', getL, atD, atS, asL, asK, seqOf, slD, cLen, lenD, cBools, cInt1, cBool1, cAbs, cMin2, cMax2, cList, cTuple, cIsi, tyN, cLenO, xNo, vw, D.cmp, cmpL, D.dep, depL, deq, deqL, D.isN, D.noCst, memD, opAdd, opSub, opMul, opMul', opDiv, opMod, opPow, opI2, opB2, opOrd, opLt, opLe, opGt, opGe, opEq, opNe, opIsN, opNotN, opIn, opNotIn, noOwn, Rv.own, lookF, blOf, strsOf, dkL, Option.map_some, Option.map_none, List.map_cons, List.map_nil, List.getElem?_cons_succ, List.getElem?_cons_zero, List.set_cons_succ, List.set_cons_zero, List.cons_append, List.nil_append, List.length_cons, List.length_nil, Nat.reduceSub, List.reduceReplicate, List.replicate_succ, List.replicate_zero, true_and, and_true, if_true, if_false, Nat.reduceAdd, reduceCtorEq, Nat.zero_add, List.append_nil, ite_true, ite_false, Bool.false_eq_true, Bool.true_eq_false, Nat.reduceMul, Bool.and_true, Bool.true_and, Bool.not_true, Bool.not_false, List.all_cons, List.all_nil]
    refine p_normal_text (by omega) (by omega) fun w => ?_
    simp only [fnS, inS, sNext, sRet, sRetO, sRetN, sIf, sSet, sSetV, sApp, sFrz, sCell, sPar, sPar3, sTgt, sFor, sWhile, sPut, sTry, sRaise, sExpr, sBrk, sCnt, eName, eC, eOp, eTup, eLst, aNil, aCons, aStar, eIf, eAnd, eOr, eNot, tB, L3.b1, tTru, tAnd', tOr', tNot', eGet, eSl, oNone, oSome, eCall, eFn, iAny, walked, iR1, iR2, iEn, iZp, gN, gTup', gCons', gNil', eLc, wipeD, tYes', eJoin, eSplit, eRepl, eDct, pSem, ePop0, eDZ, eMake, eFld, eFldO, sFldO, eProp, eMeth, eNeg, eRNe, eCh, Rv.d, tru, D.dk, getD', getL, atD, atS, asL, asK, seqOf, slD, cLen, lenD, cBools, cInt1, cBool1, cAbs, cMin2, cMax2, cList, cTuple, cIsi, tyN, cLenO, xNo, vw, D.cmp, cmpL, D.dep, depL, deq, deqL, D.isN, D.noCst, memD, opAdd, opSub, opMul, opMul', opDiv, opMod, opPow, opI2, opB2, opOrd, opLt, opLe, opGt, opGe, opEq, opNe, opIsN, opNotN, opIn, opNotIn, noOwn, Rv.own, lookF, blOf, strsOf, dkL, Option.map_some, Option.map_none, List.map_cons, List.map_nil, List.getElem?_cons_succ, List.getElem?_cons_zero, List.set_cons_succ, List.set_cons_zero, List.cons_append, List.nil_append, List.length_cons, List.length_nil, Nat.reduceSub, List.reduceReplicate, List.replicate_succ, List.replicate_zero, true_and, and_true, if_true, if_false, Nat.reduceAdd, reduceCtorEq, Nat.zero_add, List.append_nil, ite_true, ite_false, Bool.false_eq_true, Bool.true_eq_false, Nat.reduceMul, Bool.and_true, Bool.true_and, Bool.not_true, Bool.not_false, List.all_cons, List.all_nil]
    exact ⟨_, rfl, rfl, hk s w rfl ht⟩
theorem p_made {d : D} {b : Bool} {μ : Mu} {k : KR} {x : KX} (hd : Drawn d) (h0 : isTextD d = false → k (.v .non) μ) (hk : ∀ s w, d = .str s → isTextD d = true → k (.v (patD s w)) μ) : f_L_made [d, .bl b] μ k x := by
  simp only [f_L_made, fnS, inS, Option.map_some, Option.map_none, List.map_cons, List.map_nil, List.getElem?_cons_succ, List.getElem?_cons_zero, List.set_cons_succ, List.set_cons_zero, List.cons_append, List.nil_append, List.length_cons, List.length_nil, Nat.reduceSub, List.reduceReplicate, List.replicate_succ, List.replicate_zero, true_and, and_true, if_true, if_false, Nat.reduceAdd, reduceCtorEq, Nat.zero_add, List.append_nil, ite_true, ite_false, Bool.false_eq_true, Bool.true_eq_false, Nat.reduceMul, Bool.and_true, Bool.true_and, Bool.not_true, Bool.not_false, List.all_cons, List.all_nil]; unfold s_L_made
  refine seq_step fun next hn => ?_; simp only [fnS, inS, sNext, sRet, sRetO, sRetN, sIf, sSet, sSetV, sApp, sFrz, sCell, sPar, sPar3, sTgt, sFor, sWhile, sPut, sTry, sRaise, sExpr, sBrk, sCnt, eName, eC, eOp, eTup, eLst, aNil, aCons, aStar, eIf, eAnd, eOr, eNot, tB, L3.b1, tTru, tAnd', tOr', tNot', eGet, eSl, oNone, oSome, eCall, eFn, iAny, walked, iR1, iR2, iEn, iZp, gN, gTup', gCons', gNil', eLc, wipeD, tYes', eJoin, eSplit, eRepl, eDct, pSem, ePop0, eDZ, eMake, eFld, eFldO, sFldO, eProp, eMeth, eNeg, eRNe, eCh, Rv.d, tru, D.dk, getD', getL, atD, atS, asL, asK, seqOf, slD, cLen, lenD, cBools, cInt1, cBool1, cAbs, cMin2, cMax2, cList, cTuple, cIsi, tyN, cLenO, xNo, vw, D.cmp, cmpL, D.dep, depL, deq, deqL, D.isN, D.noCst, memD, opAdd, opSub, opMul, opMul', opDiv, opMod, opPow, opI2, opB2, opOrd, opLt, opLe, opGt, opGe, opEq, opNe, opIsN, opNotN, opIn, opNotIn, noOwn, Rv.own, lookF, blOf, strsOf, dkL, Option.map_some, Option.map_none, List.map_cons, List.map_nil, List.getElem?_cons_succ, List.getElem?_cons_zero, List.set_cons_succ, List.set_cons_zero, List.cons_append, List.nil_append, List.length_cons, List.length_nil, Nat.reduceSub, List.reduceReplicate, List.replicate_succ, List.replicate_zero, true_and, and_true, if_true, if_false, Nat.reduceAdd, reduceCtorEq, Nat.zero_add, List.append_nil, ite_true, ite_false, Bool.false_eq_true, Bool.true_eq_false, Nat.reduceMul, Bool.and_true, Bool.true_and, Bool.not_true, Bool.not_false, List.all_cons, List.all_nil]
  refine hn _ _ ?_
  clear hn next
  refine seq_step fun next hn => ?_; simp only [fnS, inS, sNext, sRet, sRetO, sRetN, sIf, sSet, sSetV, sApp, sFrz, sCell, sPar, sPar3, sTgt, sFor, sWhile, sPut, sTry, sRaise, sExpr, sBrk, sCnt, eName, eC, eOp, eTup, eLst, aNil, aCons, aStar, eIf, eAnd, eOr, eNot, tB, L3.b1, tTru, tAnd', tOr', tNot', eGet, eSl, oNone, oSome, eCall, eFn, iAny, walked, iR1, iR2, iEn, iZp, gN, gTup', gCons', gNil', eLc, wipeD, tYes', eJoin, eSplit, eRepl, eDct, pSem, ePop0, eDZ, eMake, eFld, eFldO, sFldO, eProp, eMeth, eNeg, eRNe, eCh, Rv.d, tru, D.dk, getD', getL, atD, atS, asL, asK, seqOf, slD, cLen, lenD, cBools, cInt1, cBool1, cAbs, cMin2, cMax2, cList, cTuple, cIsi, tyN, cLenO, xNo, vw, D.cmp, cmpL, D.dep, depL, deq, deqL, D.isN, D.noCst, memD, opAdd, opSub, opMul, opMul', opDiv, opMod, opPow, opI2, opB2, opOrd, opLt, opLe, opGt, opGe, opEq, opNe, opIsN, opNotN, opIn, opNotIn, noOwn, Rv.own, lookF, blOf, strsOf, dkL, Option.map_some, Option.map_none, List.map_cons, List.map_nil, List.getElem?_cons_succ, List.getElem?_cons_zero, List.set_cons_succ, List.set_cons_zero, List.cons_append, List.nil_append, List.length_cons, List.length_nil, Nat.reduceSub, List.reduceReplicate, List.replicate_succ, List.replicate_zero, true_and, and_true, if_true, if_false, Nat.reduceAdd, reduceCtorEq, Nat.zero_add, List.append_nil, ite_true, ite_false, Bool.false_eq_true, Bool.true_eq_false, Nat.reduceMul, Bool.and_true, Bool.true_and, Bool.not_true, Bool.not_false, List.all_cons, List.all_nil]
  have fin : ∀ v : D, k (.v v) μ → next [some (.v d), some (.v (.bl b)), some (.v v)] μ := fun v hv => hn _ _ (by simp only [fnS, inS, sNext, sRet, sRetO, sRetN, sIf, sSet, sSetV, sApp, sFrz, sCell, sPar, sPar3, sTgt, sFor, sWhile, sPut, sTry, sRaise, sExpr, sBrk, sCnt, eName, eC, eOp, eTup, eLst, aNil, aCons, aStar, eIf, eAnd, eOr, eNot, tB, L3.b1, tTru, tAnd', tOr', tNot', eGet, eSl, oNone, oSome, eCall, eFn, iAny, walked, iR1, iR2, iEn, iZp, gN, gTup', gCons', gNil', eLc, wipeD, tYes', eJoin, eSplit, eRepl, eDct, pSem, ePop0, eDZ, eMake, eFld, eFldO, sFldO, eProp, eMeth, eNeg, eRNe, eCh, Rv.d, tru, D.dk, getD', getL, atD, atS, asL, asK, seqOf, slD, cLen, lenD, cBools, cInt1, cBool1, cAbs, cMin2, cMax2, cList, cTuple, cIsi, tyN, cLenO, xNo, vw, D.cmp, cmpL, D.dep, depL, deq, deqL, D.isN, D.noCst, memD, opAdd, opSub, opMul, opMul', opDiv, opMod, opPow, opI2, opB2, opOrd, opLt, opLe, opGt, opGe, opEq, opNe, opIsN, opNotN, opIn, opNotIn, noOwn, Rv.own, lookF, blOf, strsOf, dkL, Option.map_some, Option.map_none, List.map_cons, List.map_nil, List.getElem?_cons_succ, List.getElem?_cons_zero, List.set_cons_succ, List.set_cons_zero, List.cons_append, List.nil_append, List.length_cons, List.length_nil, Nat.reduceSub, List.reduceReplicate, List.replicate_succ, List.replicate_zero, true_and, and_true, if_true, if_false, Nat.reduceAdd, reduceCtorEq, Nat.zero_add, List.append_nil, ite_true, ite_false, Bool.false_eq_true, Bool.true_eq_false, Nat.reduceMul, Bool.and_true, Bool.true_and, Bool.not_true, Bool.not_false, List.all_cons, List.all_nil]; exact hv)
  clear hn
  have one : f_Pattern_init [d] μ (fun fs μ2 => next [some (.v d), some (.v (.bl b)), some (.v (.obj 3 fs))] μ2) fun e μ' => e.c ∈ [1] ∧ if SUB_1 e.c = true then next [some (.v d), some (.v (.bl b)), some (.v .non)] μ' else x e μ' := by
    refine p_init hd (fun hf => ?_) fun s w e ht => fin _ (hk s w e ht)
    exact ⟨by simp, by rw [if_pos (by decide)]; exact fin _ (h0 hf)⟩
  exact ite2 (fun _ => one) (fun _ => one)
theorem n_gt : ¬ (("given" : Str) = "standard") := by decide +kernel
theorem p_text {s w : List Nat} {μ : Mu} {k : KR} {x : KX} (hk : k (.v (.str s)) μ) : f_Pattern_text [patD s w] μ k x := by
  simp only [f_Pattern_text, fnS, inS, Option.map_some, Option.map_none, List.map_cons, List.map_nil, List.getElem?_cons_succ, List.getElem?_cons_zero, List.set_cons_succ, List.set_cons_zero, List.cons_append, List.nil_append, List.length_cons, List.length_nil, Nat.reduceSub, List.reduceReplicate, List.replicate_succ, List.replicate_zero, true_and, and_true, if_true, if_false, Nat.reduceAdd, reduceCtorEq, Nat.zero_add, List.append_nil, ite_true, ite_false, Bool.false_eq_true, Bool.true_eq_false, Nat.reduceMul, Bool.and_true, Bool.true_and, Bool.not_true, Bool.not_false, List.all_cons, List.all_nil]; unfold s_Pattern_text
  simp only [patD, FN, fnS, inS, sNext, sRet, sRetO, sRetN, sIf, sSet, sSetV, sApp, sFrz, sCell, sPar, sPar3, sTgt, sFor, sWhile, sPut, sTry, sRaise, sExpr, sBrk, sCnt, eName, eC, eOp, eTup, eLst, aNil, aCons, aStar, eIf, eAnd, eOr, eNot, tB, L3.b1, tTru, tAnd', tOr', tNot', eGet, eSl, oNone, oSome, eCall, eFn, iAny, walked, iR1, iR2, iEn, iZp, gN, gTup', gCons', gNil', eLc, wipeD, tYes', eJoin, eSplit, eRepl, eDct, pSem, ePop0, eDZ, eMake, eFld, eFldO, sFldO, eProp, eMeth, eNeg, eRNe, eCh, Rv.d, tru, D.dk, getD', getL, atD, atS, asL, asK, seqOf, slD, cLen, lenD, cBools, cInt1, cBool1, cAbs, cMin2, cMax2, cList, cTuple, cIsi, tyN, cLenO, xNo, vw, D.cmp, cmpL, D.dep, depL, deq, deqL, D.isN, D.noCst, memD, opAdd, opSub, opMul, opMul', opDiv, opMod, opPow, opI2, opB2, opOrd, opLt, opLe, opGt, opGe, opEq, opNe, opIsN, opNotN, opIn, opNotIn, noOwn, Rv.own, lookF, blOf, strsOf, dkL, Option.map_some, Option.map_none, List.map_cons, List.map_nil, List.getElem?_cons_succ, List.getElem?_cons_zero, List.set_cons_succ, List.set_cons_zero, List.cons_append, List.nil_append, List.length_cons, List.length_nil, Nat.reduceSub, List.reduceReplicate, List.replicate_succ, List.replicate_zero, true_and, and_true, if_true, if_false, Nat.reduceAdd, reduceCtorEq, Nat.zero_add, List.append_nil, ite_true, ite_false, Bool.false_eq_true, Bool.true_eq_false, Nat.reduceMul, Bool.and_true, Bool.true_and, Bool.not_true, Bool.not_false, List.all_cons, List.all_nil]
  exact ⟨by simp, hk⟩
theorem p_steps {s w : List Nat} {μ : Mu} {k : KR} {x : KX} (hk : k (.v (.tup (stD (parse [] s).1))) μ) : f_Pattern_steps [patD s w] μ k x := by
  simp only [f_Pattern_steps, fnS, inS, Option.map_some, Option.map_none, List.map_cons, List.map_nil, List.getElem?_cons_succ, List.getElem?_cons_zero, List.set_cons_succ, List.set_cons_zero, List.cons_append, List.nil_append, List.length_cons, List.length_nil, Nat.reduceSub, List.reduceReplicate, List.replicate_succ, List.replicate_zero, true_and, and_true, if_true, if_false, Nat.reduceAdd, reduceCtorEq, Nat.zero_add, List.append_nil, ite_true, ite_false, Bool.false_eq_true, Bool.true_eq_false, Nat.reduceMul, Bool.and_true, Bool.true_and, Bool.not_true, Bool.not_false, List.all_cons, List.all_nil]; unfold s_Pattern_steps
  simp only [patD, FN, fnS, inS, sNext, sRet, sRetO, sRetN, sIf, sSet, sSetV, sApp, sFrz, sCell, sPar, sPar3, sTgt, sFor, sWhile, sPut, sTry, sRaise, sExpr, sBrk, sCnt, eName, eC, eOp, eTup, eLst, aNil, aCons, aStar, eIf, eAnd, eOr, eNot, tB, L3.b1, tTru, tAnd', tOr', tNot', eGet, eSl, oNone, oSome, eCall, eFn, iAny, walked, iR1, iR2, iEn, iZp, gN, gTup', gCons', gNil', eLc, wipeD, tYes', eJoin, eSplit, eRepl, eDct, pSem, ePop0, eDZ, eMake, eFld, eFldO, sFldO, eProp, eMeth, eNeg, eRNe, eCh, Rv.d, tru, D.dk, getD', getL, atD, atS, asL, asK, seqOf, slD, cLen, lenD, cBools, cInt1, cBool1, cAbs, cMin2, cMax2, cList, cTuple, cIsi, tyN, cLenO, xNo, vw, D.cmp, cmpL, D.dep, depL, deq, deqL, D.isN, D.noCst, memD, opAdd, opSub, opMul, opMul', opDiv, opMod, opPow, opI2, opB2, opOrd, opLt, opLe, opGt, opGe, opEq, opNe, opIsN, opNotN, opIn, opNotIn, noOwn, Rv.own, lookF, blOf, strsOf, dkL, Option.map_some, Option.map_none, List.map_cons, List.map_nil, List.getElem?_cons_succ, List.getElem?_cons_zero, List.set_cons_succ, List.set_cons_zero, List.cons_append, List.nil_append, List.length_cons, List.length_nil, Nat.reduceSub, List.reduceReplicate, List.replicate_succ, List.replicate_zero, true_and, and_true, if_true, if_false, Nat.reduceAdd, reduceCtorEq, Nat.zero_add, List.append_nil, ite_true, ite_false, Bool.false_eq_true, Bool.true_eq_false, Nat.reduceMul, Bool.and_true, Bool.true_and, Bool.not_true, Bool.not_false, List.all_cons, List.all_nil, if_neg n_gp]
  exact ⟨by simp, hk⟩
theorem p_tail {s w : List Nat} {μ : Mu} {k : KR} {x : KX} (hk : k (.v (.str (parse [] s).2)) μ) : f_Pattern_tail [patD s w] μ k x := by
  simp only [f_Pattern_tail, fnS, inS, Option.map_some, Option.map_none, List.map_cons, List.map_nil, List.getElem?_cons_succ, List.getElem?_cons_zero, List.set_cons_succ, List.set_cons_zero, List.cons_append, List.nil_append, List.length_cons, List.length_nil, Nat.reduceSub, List.reduceReplicate, List.replicate_succ, List.replicate_zero, true_and, and_true, if_true, if_false, Nat.reduceAdd, reduceCtorEq, Nat.zero_add, List.append_nil, ite_true, ite_false, Bool.false_eq_true, Bool.true_eq_false, Nat.reduceMul, Bool.and_true, Bool.true_and, Bool.not_true, Bool.not_false, List.all_cons, List.all_nil]; unfold s_Pattern_tail
  simp only [patD, FN, fnS, inS, sNext, sRet, sRetO, sRetN, sIf, sSet, sSetV, sApp, sFrz, sCell, sPar, sPar3, sTgt, sFor, sWhile, sPut, sTry, sRaise, sExpr, sBrk, sCnt, eName, eC, eOp, eTup, eLst, aNil, aCons, aStar, eIf, eAnd, eOr, eNot, tB, L3.b1, tTru, tAnd', tOr', tNot', eGet, eSl, oNone, oSome, eCall, eFn, iAny, walked, iR1, iR2, iEn, iZp, gN, gTup', gCons', gNil', eLc, wipeD, tYes', eJoin, eSplit, eRepl, eDct, pSem, ePop0, eDZ, eMake, eFld, eFldO, sFldO, eProp, eMeth, eNeg, eRNe, eCh, Rv.d, tru, D.dk, getD', getL, atD, atS, asL, asK, seqOf, slD, cLen, lenD, cBools, cInt1, cBool1, cAbs, cMin2, cMax2, cList, cTuple, cIsi, tyN, cLenO, xNo, vw, D.cmp, cmpL, D.dep, depL, deq, deqL, D.isN, D.noCst, memD, opAdd, opSub, opMul, opMul', opDiv, opMod, opPow, opI2, opB2, opOrd, opLt, opLe, opGt, opGe, opEq, opNe, opIsN, opNotN, opIn, opNotIn, noOwn, Rv.own, lookF, blOf, strsOf, dkL, Option.map_some, Option.map_none, List.map_cons, List.map_nil, List.getElem?_cons_succ, List.getElem?_cons_zero, List.set_cons_succ, List.set_cons_zero, List.cons_append, List.nil_append, List.length_cons, List.length_nil, Nat.reduceSub, List.reduceReplicate, List.replicate_succ, List.replicate_zero, true_and, and_true, if_true, if_false, Nat.reduceAdd, reduceCtorEq, Nat.zero_add, List.append_nil, ite_true, ite_false, Bool.false_eq_true, Bool.true_eq_false, Nat.reduceMul, Bool.and_true, Bool.true_and, Bool.not_true, Bool.not_false, List.all_cons, List.all_nil, if_neg n_ge, if_neg n_pe]
  exact ⟨by simp, hk⟩
theorem p_len {s w : List Nat} {μ : Mu} {k : KR} {x : KX} (hk : k (.v (.int ((parse [] s).1.length : Nat))) μ) : f_Pattern_len [patD s w] μ k x := by
  simp only [f_Pattern_len, fnS, inS, Option.map_some, Option.map_none, List.map_cons, List.map_nil, List.getElem?_cons_succ, List.getElem?_cons_zero, List.set_cons_succ, List.set_cons_zero, List.cons_append, List.nil_append, List.length_cons, List.length_nil, Nat.reduceSub, List.reduceReplicate, List.replicate_succ, List.replicate_zero, true_and, and_true, if_true, if_false, Nat.reduceAdd, reduceCtorEq, Nat.zero_add, List.append_nil, ite_true, ite_false, Bool.false_eq_true, Bool.true_eq_false, Nat.reduceMul, Bool.and_true, Bool.true_and, Bool.not_true, Bool.not_false, List.all_cons, List.all_nil]; unfold s_Pattern_len
  simp only [patD, FN, fnS, inS, sNext, sRet, sRetO, sRetN, sIf, sSet, sSetV, sApp, sFrz, sCell, sPar, sPar3, sTgt, sFor, sWhile, sPut, sTry, sRaise, sExpr, sBrk, sCnt, eName, eC, eOp, eTup, eLst, aNil, aCons, aStar, eIf, eAnd, eOr, eNot, tB, L3.b1, tTru, tAnd', tOr', tNot', eGet, eSl, oNone, oSome, eCall, eFn, iAny, walked, iR1, iR2, iEn, iZp, gN, gTup', gCons', gNil', eLc, wipeD, tYes', eJoin, eSplit, eRepl, eDct, pSem, ePop0, eDZ, eMake, eFld, eFldO, sFldO, eProp, eMeth, eNeg, eRNe, eCh, Rv.d, tru, D.dk, getD', getL, atD, atS, asL, asK, seqOf, slD, cLen, lenD, cBools, cInt1, cBool1, cAbs, cMin2, cMax2, cList, cTuple, cIsi, tyN, cLenO, xNo, vw, D.cmp, cmpL, D.dep, depL, deq, deqL, D.isN, D.noCst, memD, opAdd, opSub, opMul, opMul', opDiv, opMod, opPow, opI2, opB2, opOrd, opLt, opLe, opGt, opGe, opEq, opNe, opIsN, opNotN, opIn, opNotIn, noOwn, Rv.own, lookF, blOf, strsOf, dkL, Option.map_some, Option.map_none, List.map_cons, List.map_nil, List.getElem?_cons_succ, List.getElem?_cons_zero, List.set_cons_succ, List.set_cons_zero, List.cons_append, List.nil_append, List.length_cons, List.length_nil, Nat.reduceSub, List.reduceReplicate, List.replicate_succ, List.replicate_zero, true_and, and_true, if_true, if_false, Nat.reduceAdd, reduceCtorEq, Nat.zero_add, List.append_nil, ite_true, ite_false, Bool.false_eq_true, Bool.true_eq_false, Nat.reduceMul, Bool.and_true, Bool.true_and, Bool.not_true, Bool.not_false, List.all_cons, List.all_nil, if_neg n_gp]
  refine ⟨by simp, ?_⟩
  rw [show (stD (parse [] s).1).length = (parse [] s).1.length by simp [stD]]
  exact hk
theorem parse_all (P : Nat → Prop) : ∀ (s acc : List Nat), (∀ c ∈ acc, P c) → (∀ c ∈ s, P c) → (∀ p ∈ (parse acc s).1, ∀ c ∈ p.1, P c) ∧ ∀ c ∈ (parse acc s).2, P c
  | [], acc, ha, _ => ⟨fun p h => by simp [parse] at h, ha⟩
  | c :: r, acc, ha, hs => by
    rw [parse_cons]
    have hr : ∀ c ∈ r, P c := fun d h => hs d (List.mem_cons_of_mem _ h)
    split
    · have := parse_all P r [] (fun _ h => by cases h) hr
      refine ⟨fun p h => ?_, this.2⟩
      rcases List.mem_cons.mp h with h | h
      · rw [h]; exact ha
      · exact this.1 p h
    · refine parse_all P r (acc ++ [c]) (fun d h => ?_) hr
      rcases List.mem_append.mp h with h | h
      · exact ha d h
      · rw [show d = c by simpa using h]; exact hs c List.mem_cons_self
theorem stD_cmp : ∀ l, cmpL (stD l) = true
  | [] => rfl
  | (w, b) :: l => by
    have := stD_cmp l
    simp only [stD] at this
    simp only [stD, List.map_cons, cmpL, D.cmp, this, Bool.and_self]
theorem stD_shw : ∀ l, shwL (stD l) = true
  | [] => rfl
  | (w, b) :: l => by
    have := stD_shw l
    simp only [stD] at this
    simp only [stD, List.map_cons, shwL, D.shw, this, Bool.and_self]
theorem stD_dep : ∀ l, depL (stD l) ≤ 1
  | [] => Nat.zero_le _
  | (w, b) :: l => by
    have := stD_dep l
    simp only [stD] at this
    simp only [stD, List.map_cons, depL, D.dep, Nat.max_self, Nat.zero_add]
    omega
theorem stD_wt : ∀ l, wtL (stD l) ≤ 16 * tot l
  | [] => Nat.zero_le _
  | (w, b) :: l => by
    have := stD_wt l
    simp only [stD] at this
    rw [tot_cons]
    simp only [stD, List.map_cons, wtL, D.wt]
    omega
theorem stD_nar : ∀ l : List (List Nat × Bool), (∀ p ∈ l, ∀ c ∈ p.1, c < 16 ^ 8) → narL (stD l) = true
  | [], _ => rfl
  | (w, b) :: l, h => by
    have := stD_nar l fun p hp => h p (List.mem_cons_of_mem _ hp)
    simp only [stD] at this
    simp only [stD, List.map_cons, narL, D.nar, this, Bool.and_self, Bool.and_true, List.all_eq_true, decide_eq_true_eq]
    exact h _ List.mem_cons_self
theorem okc_lt {c : Nat} (h : okc c = true) : c < 16 ^ 8 := by
  simp only [okc, isLet, isSign, Bool.or_eq_true, decide_eq_true_eq, beq_iff_eq, List.mem_cons, List.not_mem_nil, or_false] at h
  omega
theorem told_ok {s : List Nat} {μ : Mu} {n : Nat} (h : isTextD (.str s) = true) (hn : n ≤ 400) : ∃ p, ROk μ (.lst [.str s, .tup (stD (parse [] s).1), .str (parse [] s).2, .int n]) p := by
  simp only [isTextD, isText, Bool.and_eq_true, decide_eq_true_eq, List.all_eq_true] at h
  have hc : ∀ c ∈ s, c < 16 ^ 8 := fun c hc => okc_lt (h.2 c hc)
  have hp := parse_tot s []
  have ha := parse_all (fun c => c < 16 ^ 8) s [] (fun _ h => by cases h) hc
  have hw := stD_wt (parse [] s).1
  have hd := stD_dep (parse [] s).1
  have hi := int_wt (n := n) (by omega)
  simp only [List.length_nil, Nat.zero_add] at hp
  refine rok_of rfl ?_ ?_ ?_ ?_ ?_
  · simp only [vw, D.cmp, cmpL, stD_cmp, Bool.and_self]
  · simp only [vw, D.shw, shwL, stD_shw, Bool.true_and, Bool.and_true]
    have := int_shw (n := n) (by omega)
    simpa only [D.shw] using this
  · simp only [vw, D.dep, depL]
    omega
  · simp only [vw, D.nar, narL, stD_nar _ ha.1, Bool.true_and, Bool.and_true, Bool.and_eq_true, List.all_eq_true, decide_eq_true_eq]
    exact ⟨hc, ha.2⟩
  · simp only [vw, D.wt, wtL] at hi ⊢
    rw [sizeLine_eq]
    omega
/-- the law -/
theorem law_good : ∀ ns : List Int, ns.length ≤ 63 → f_law [.scr ns] [] (fun r _ => r = .v (.bl true)) xNo := by
  intro ns hn0
  simp only [f_law, fnS, inS, Option.map_some, Option.map_none, List.map_cons, List.map_nil, List.getElem?_cons_succ, List.getElem?_cons_zero, List.set_cons_succ, List.set_cons_zero, List.cons_append, List.nil_append, List.length_cons, List.length_nil, Nat.reduceSub, List.reduceReplicate, List.replicate_succ, List.replicate_zero, true_and, and_true, if_true, if_false, Nat.reduceAdd, reduceCtorEq, Nat.zero_add, List.append_nil, ite_true, ite_false, Bool.false_eq_true, Bool.true_eq_false, Nat.reduceMul, Bool.and_true, Bool.true_and, Bool.not_true, Bool.not_false, List.all_cons, List.all_nil]; unfold s_law
  refine seq_step fun next hn => ?_; simp only [fnS, inS, sNext, sRet, sRetO, sRetN, sIf, sSet, sSetV, sApp, sFrz, sCell, sPar, sPar3, sTgt, sFor, sWhile, sPut, sTry, sRaise, sExpr, sBrk, sCnt, eName, eC, eOp, eTup, eLst, aNil, aCons, aStar, eIf, eAnd, eOr, eNot, tB, L3.b1, tTru, tAnd', tOr', tNot', eGet, eSl, oNone, oSome, eCall, eFn, iAny, walked, iR1, iR2, iEn, iZp, gN, gTup', gCons', gNil', eLc, wipeD, tYes', eJoin, eSplit, eRepl, eDct, pSem, ePop0, eDZ, eMake, eFld, eFldO, sFldO, eProp, eMeth, eNeg, eRNe, eCh, Rv.d, tru, D.dk, getD', getL, atD, atS, asL, asK, seqOf, slD, cLen, lenD, cBools, cInt1, cBool1, cAbs, cMin2, cMax2, cList, cTuple, cIsi, tyN, cLenO, xNo, vw, D.cmp, cmpL, D.dep, depL, deq, deqL, D.isN, D.noCst, memD, opAdd, opSub, opMul, opMul', opDiv, opMod, opPow, opI2, opB2, opOrd, opLt, opLe, opGt, opGe, opEq, opNe, opIsN, opNotN, opIn, opNotIn, noOwn, Rv.own, lookF, blOf, strsOf, dkL, Option.map_some, Option.map_none, List.map_cons, List.map_nil, List.getElem?_cons_succ, List.getElem?_cons_zero, List.set_cons_succ, List.set_cons_zero, List.cons_append, List.nil_append, List.length_cons, List.length_nil, Nat.reduceSub, List.reduceReplicate, List.replicate_succ, List.replicate_zero, true_and, and_true, if_true, if_false, Nat.reduceAdd, reduceCtorEq, Nat.zero_add, List.append_nil, ite_true, ite_false, Bool.false_eq_true, Bool.true_eq_false, Nat.reduceMul, Bool.and_true, Bool.true_and, Bool.not_true, Bool.not_false, List.all_cons, List.all_nil]
  refine st_begun hn0 fun μ hs => hn _ _ ?_
  clear hn next
  refine seq_step fun next hn => ?_; simp only [fnS, inS, sNext, sRet, sRetO, sRetN, sIf, sSet, sSetV, sApp, sFrz, sCell, sPar, sPar3, sTgt, sFor, sWhile, sPut, sTry, sRaise, sExpr, sBrk, sCnt, eName, eC, eOp, eTup, eLst, aNil, aCons, aStar, eIf, eAnd, eOr, eNot, tB, L3.b1, tTru, tAnd', tOr', tNot', eGet, eSl, oNone, oSome, eCall, eFn, iAny, walked, iR1, iR2, iEn, iZp, gN, gTup', gCons', gNil', eLc, wipeD, tYes', eJoin, eSplit, eRepl, eDct, pSem, ePop0, eDZ, eMake, eFld, eFldO, sFldO, eProp, eMeth, eNeg, eRNe, eCh, Rv.d, tru, D.dk, getD', getL, atD, atS, asL, asK, seqOf, slD, cLen, lenD, cBools, cInt1, cBool1, cAbs, cMin2, cMax2, cList, cTuple, cIsi, tyN, cLenO, xNo, vw, D.cmp, cmpL, D.dep, depL, deq, deqL, D.isN, D.noCst, memD, opAdd, opSub, opMul, opMul', opDiv, opMod, opPow, opI2, opB2, opOrd, opLt, opLe, opGt, opGe, opEq, opNe, opIsN, opNotN, opIn, opNotIn, noOwn, Rv.own, lookF, blOf, strsOf, dkL, Option.map_some, Option.map_none, List.map_cons, List.map_nil, List.getElem?_cons_succ, List.getElem?_cons_zero, List.set_cons_succ, List.set_cons_zero, List.cons_append, List.nil_append, List.length_cons, List.length_nil, Nat.reduceSub, List.reduceReplicate, List.replicate_succ, List.replicate_zero, true_and, and_true, if_true, if_false, Nat.reduceAdd, reduceCtorEq, Nat.zero_add, List.append_nil, ite_true, ite_false, Bool.false_eq_true, Bool.true_eq_false, Nat.reduceMul, Bool.and_true, Bool.true_and, Bool.not_true, Bool.not_false, List.all_cons, List.all_nil]
  simp only [List.length_map]
  generalize hm : (8 + if (12 : Int) < ((ns.length : Nat) : Int) then (12 : Int) else ((ns.length : Nat) : Int)) = m
  have hm0 : 0 ≤ m ∧ m ≤ 20 := by
    rw [← hm]
    split <;> omega
  refine ⟨by omega, by omega, ?_⟩
  refine forS_ind (R := fun ds δ μ => (∃ (a b c d e f g : Option Rv), δ = [some (.v (.scr ns)), some (.v (.loc 1)), a, b, c, d, e, f, g]) ∧ StOk (1000 * ds.length) μ ∧ ∀ d ∈ ds, ∃ i : Int, d = .int i) ?_ ?_ _ _ _
    ⟨⟨_, _, _, _, _, _, _, rfl⟩, hs.le (by rw [rangeD_len]; omega), fun d hd => by obtain ⟨i, e, _⟩ := rangeD_int _ d hd; exact ⟨i, e⟩⟩
  · rintro δ μ ⟨⟨a, b, c, d, e, f, g, rfl⟩, _, _⟩
    refine hn _ _ ?_
    simp only [fnS, inS, sNext, sRet, sRetO, sRetN, sIf, sSet, sSetV, sApp, sFrz, sCell, sPar, sPar3, sTgt, sFor, sWhile, sPut, sTry, sRaise, sExpr, sBrk, sCnt, eName, eC, eOp, eTup, eLst, aNil, aCons, aStar, eIf, eAnd, eOr, eNot, tB, L3.b1, tTru, tAnd', tOr', tNot', eGet, eSl, oNone, oSome, eCall, eFn, iAny, walked, iR1, iR2, iEn, iZp, gN, gTup', gCons', gNil', eLc, wipeD, tYes', eJoin, eSplit, eRepl, eDct, pSem, ePop0, eDZ, eMake, eFld, eFldO, sFldO, eProp, eMeth, eNeg, eRNe, eCh, Rv.d, tru, D.dk, getD', getL, atD, atS, asL, asK, seqOf, slD, cLen, lenD, cBools, cInt1, cBool1, cAbs, cMin2, cMax2, cList, cTuple, cIsi, tyN, cLenO, xNo, vw, D.cmp, cmpL, D.dep, depL, deq, deqL, D.isN, D.noCst, memD, opAdd, opSub, opMul, opMul', opDiv, opMod, opPow, opI2, opB2, opOrd, opLt, opLe, opGt, opGe, opEq, opNe, opIsN, opNotN, opIn, opNotIn, noOwn, Rv.own, lookF, blOf, strsOf, dkL, Option.map_some, Option.map_none, List.map_cons, List.map_nil, List.getElem?_cons_succ, List.getElem?_cons_zero, List.set_cons_succ, List.set_cons_zero, List.cons_append, List.nil_append, List.length_cons, List.length_nil, Nat.reduceSub, List.reduceReplicate, List.replicate_succ, List.replicate_zero, true_and, and_true, if_true, if_false, Nat.reduceAdd, reduceCtorEq, Nat.zero_add, List.append_nil, ite_true, ite_false, Bool.false_eq_true, Bool.true_eq_false, Nat.reduceMul, Bool.and_true, Bool.true_and, Bool.not_true, Bool.not_false, List.all_cons, List.all_nil]
    exact ⟨by decide, rfl⟩
  clear hn hs
  rintro d ds δ μ next2 ⟨⟨a, b, c, d', e, f, g, rfl⟩, hs, hd⟩ ih
  obtain ⟨i, rfl⟩ := hd d List.mem_cons_self
  have hd2 : ∀ d ∈ ds, ∃ i : Int, d = .int i := fun d h => hd d (List.mem_cons_of_mem _ h)
  clear hd
  rw [List.length_cons] at hs
  simp only [gN, List.set_cons_succ, List.set_cons_zero]
  refine seq_step fun next hn => ?_; simp only [fnS, inS, sNext, sRet, sRetO, sRetN, sIf, sSet, sSetV, sApp, sFrz, sCell, sPar, sPar3, sTgt, sFor, sWhile, sPut, sTry, sRaise, sExpr, sBrk, sCnt, eName, eC, eOp, eTup, eLst, aNil, aCons, aStar, eIf, eAnd, eOr, eNot, tB, L3.b1, tTru, tAnd', tOr', tNot', eGet, eSl, oNone, oSome, eCall, eFn, iAny, walked, iR1, iR2, iEn, iZp, gN, gTup', gCons', gNil', eLc, wipeD, tYes', eJoin, eSplit, eRepl, eDct, pSem, ePop0, eDZ, eMake, eFld, eFldO, sFldO, eProp, eMeth, eNeg, eRNe, eCh, Rv.d, tru, D.dk, getD', getL, atD, atS, asL, asK, seqOf, slD, cLen, lenD, cBools, cInt1, cBool1, cAbs, cMin2, cMax2, cList, cTuple, cIsi, tyN, cLenO, xNo, vw, D.cmp, cmpL, D.dep, depL, deq, deqL, D.isN, D.noCst, memD, opAdd, opSub, opMul, opMul', opDiv, opMod, opPow, opI2, opB2, opOrd, opLt, opLe, opGt, opGe, opEq, opNe, opIsN, opNotN, opIn, opNotIn, noOwn, Rv.own, lookF, blOf, strsOf, dkL, Option.map_some, Option.map_none, List.map_cons, List.map_nil, List.getElem?_cons_succ, List.getElem?_cons_zero, List.set_cons_succ, List.set_cons_zero, List.cons_append, List.nil_append, List.length_cons, List.length_nil, Nat.reduceSub, List.reduceReplicate, List.replicate_succ, List.replicate_zero, true_and, and_true, if_true, if_false, Nat.reduceAdd, reduceCtorEq, Nat.zero_add, List.append_nil, ite_true, ite_false, Bool.false_eq_true, Bool.true_eq_false, Nat.reduceMul, Bool.and_true, Bool.true_and, Bool.not_true, Bool.not_false, List.all_cons, List.all_nil]
  refine st_drawn (n := 1000 * ds.length) (hs.le (by omega)) fun th μ hth hs => hn _ _ ?_
  clear hn next
  refine seq_step fun next hn => ?_; simp only [fnS, inS, sNext, sRet, sRetO, sRetN, sIf, sSet, sSetV, sApp, sFrz, sCell, sPar, sPar3, sTgt, sFor, sWhile, sPut, sTry, sRaise, sExpr, sBrk, sCnt, eName, eC, eOp, eTup, eLst, aNil, aCons, aStar, eIf, eAnd, eOr, eNot, tB, L3.b1, tTru, tAnd', tOr', tNot', eGet, eSl, oNone, oSome, eCall, eFn, iAny, walked, iR1, iR2, iEn, iZp, gN, gTup', gCons', gNil', eLc, wipeD, tYes', eJoin, eSplit, eRepl, eDct, pSem, ePop0, eDZ, eMake, eFld, eFldO, sFldO, eProp, eMeth, eNeg, eRNe, eCh, Rv.d, tru, D.dk, getD', getL, atD, atS, asL, asK, seqOf, slD, cLen, lenD, cBools, cInt1, cBool1, cAbs, cMin2, cMax2, cList, cTuple, cIsi, tyN, cLenO, xNo, vw, D.cmp, cmpL, D.dep, depL, deq, deqL, D.isN, D.noCst, memD, opAdd, opSub, opMul, opMul', opDiv, opMod, opPow, opI2, opB2, opOrd, opLt, opLe, opGt, opGe, opEq, opNe, opIsN, opNotN, opIn, opNotIn, noOwn, Rv.own, lookF, blOf, strsOf, dkL, Option.map_some, Option.map_none, List.map_cons, List.map_nil, List.getElem?_cons_succ, List.getElem?_cons_zero, List.set_cons_succ, List.set_cons_zero, List.cons_append, List.nil_append, List.length_cons, List.length_nil, Nat.reduceSub, List.reduceReplicate, List.replicate_succ, List.replicate_zero, true_and, and_true, if_true, if_false, Nat.reduceAdd, reduceCtorEq, Nat.zero_add, List.append_nil, ite_true, ite_false, Bool.false_eq_true, Bool.true_eq_false, Nat.reduceMul, Bool.and_true, Bool.true_and, Bool.not_true, Bool.not_false, List.all_cons, List.all_nil]
  refine ⟨by omega, by decide, ?_⟩
  have fin : ∀ x3 x4 x5 x6 x7 x8 x9, next2 [some (.v (.scr ns)), some (.v (.loc 1)), x3, x4, x5, x6, x7, x8, x9] μ := fun x3 x4 x5 x6 x7 x8 x9 => ih _ _ ⟨⟨_, _, _, _, _, _, _, rfl⟩, hs, hd2⟩
  cases ht : isTextD th with
  | false =>
    refine p_made hth (fun _ => ?_) (fun s w _ h => by rw [ht] at h; cases h)
    try simp only [fnS, inS, sNext, sRet, sRetO, sRetN, sIf, sSet, sSetV, sApp, sFrz, sCell, sPar, sPar3, sTgt, sFor, sWhile, sPut, sTry, sRaise, sExpr, sBrk, sCnt, eName, eC, eOp, eTup, eLst, aNil, aCons, aStar, eIf, eAnd, eOr, eNot, tB, L3.b1, tTru, tAnd', tOr', tNot', eGet, eSl, oNone, oSome, eCall, eFn, iAny, walked, iR1, iR2, iEn, iZp, gN, gTup', gCons', gNil', eLc, wipeD, tYes', eJoin, eSplit, eRepl, eDct, pSem, ePop0, eDZ, eMake, eFld, eFldO, sFldO, eProp, eMeth, eNeg, eRNe, eCh, Rv.d, tru, D.dk, getD', getL, atD, atS, asL, asK, seqOf, slD, cLen, lenD, cBools, cInt1, cBool1, cAbs, cMin2, cMax2, cList, cTuple, cIsi, tyN, cLenO, xNo, vw, D.cmp, cmpL, D.dep, depL, deq, deqL, D.isN, D.noCst, memD, opAdd, opSub, opMul, opMul', opDiv, opMod, opPow, opI2, opB2, opOrd, opLt, opLe, opGt, opGe, opEq, opNe, opIsN, opNotN, opIn, opNotIn, noOwn, Rv.own, lookF, blOf, strsOf, dkL, Option.map_some, Option.map_none, List.map_cons, List.map_nil, List.getElem?_cons_succ, List.getElem?_cons_zero, List.set_cons_succ, List.set_cons_zero, List.cons_append, List.nil_append, List.length_cons, List.length_nil, Nat.reduceSub, List.reduceReplicate, List.replicate_succ, List.replicate_zero, true_and, and_true, if_true, if_false, Nat.reduceAdd, reduceCtorEq, Nat.zero_add, List.append_nil, ite_true, ite_false, Bool.false_eq_true, Bool.true_eq_false, Nat.reduceMul, Bool.and_true, Bool.true_and, Bool.not_true, Bool.not_false, List.all_cons, List.all_nil]
    refine p_is_pattern hth (hn _ _ ?_)
    rw [ht]
    simp only [sSeq, fnS, inS, sNext, sRet, sRetO, sRetN, sIf, sSet, sSetV, sApp, sFrz, sCell, sPar, sPar3, sTgt, sFor, sWhile, sPut, sTry, sRaise, sExpr, sBrk, sCnt, eName, eC, eOp, eTup, eLst, aNil, aCons, aStar, eIf, eAnd, eOr, eNot, tB, L3.b1, tTru, tAnd', tOr', tNot', eGet, eSl, oNone, oSome, eCall, eFn, iAny, walked, iR1, iR2, iEn, iZp, gN, gTup', gCons', gNil', eLc, wipeD, tYes', eJoin, eSplit, eRepl, eDct, pSem, ePop0, eDZ, eMake, eFld, eFldO, sFldO, eProp, eMeth, eNeg, eRNe, eCh, Rv.d, tru, D.dk, getD', getL, atD, atS, asL, asK, seqOf, slD, cLen, lenD, cBools, cInt1, cBool1, cAbs, cMin2, cMax2, cList, cTuple, cIsi, tyN, cLenO, xNo, vw, D.cmp, cmpL, D.dep, depL, deq, deqL, D.isN, D.noCst, memD, opAdd, opSub, opMul, opMul', opDiv, opMod, opPow, opI2, opB2, opOrd, opLt, opLe, opGt, opGe, opEq, opNe, opIsN, opNotN, opIn, opNotIn, noOwn, Rv.own, lookF, blOf, strsOf, dkL, Option.map_some, Option.map_none, List.map_cons, List.map_nil, List.getElem?_cons_succ, List.getElem?_cons_zero, List.set_cons_succ, List.set_cons_zero, List.cons_append, List.nil_append, List.length_cons, List.length_nil, Nat.reduceSub, List.reduceReplicate, List.replicate_succ, List.replicate_zero, true_and, and_true, if_true, if_false, Nat.reduceAdd, reduceCtorEq, Nat.zero_add, List.append_nil, ite_true, ite_false, Bool.false_eq_true, Bool.true_eq_false, Nat.reduceMul, Bool.and_true, Bool.true_and, Bool.not_true, Bool.not_false, List.all_cons, List.all_nil]
    exact ⟨by decide, fin _ _ _ _ _ _ _⟩
  | true =>
    refine p_made hth (fun h => by rw [ht] at h; cases h) fun s w hsw _ => ?_
    subst hsw
    try simp only [fnS, inS, sNext, sRet, sRetO, sRetN, sIf, sSet, sSetV, sApp, sFrz, sCell, sPar, sPar3, sTgt, sFor, sWhile, sPut, sTry, sRaise, sExpr, sBrk, sCnt, eName, eC, eOp, eTup, eLst, aNil, aCons, aStar, eIf, eAnd, eOr, eNot, tB, L3.b1, tTru, tAnd', tOr', tNot', eGet, eSl, oNone, oSome, eCall, eFn, iAny, walked, iR1, iR2, iEn, iZp, gN, gTup', gCons', gNil', eLc, wipeD, tYes', eJoin, eSplit, eRepl, eDct, pSem, ePop0, eDZ, eMake, eFld, eFldO, sFldO, eProp, eMeth, eNeg, eRNe, eCh, Rv.d, tru, D.dk, getD', getL, atD, atS, asL, asK, seqOf, slD, cLen, lenD, cBools, cInt1, cBool1, cAbs, cMin2, cMax2, cList, cTuple, cIsi, tyN, cLenO, xNo, vw, D.cmp, cmpL, D.dep, depL, deq, deqL, D.isN, D.noCst, memD, opAdd, opSub, opMul, opMul', opDiv, opMod, opPow, opI2, opB2, opOrd, opLt, opLe, opGt, opGe, opEq, opNe, opIsN, opNotN, opIn, opNotIn, noOwn, Rv.own, lookF, blOf, strsOf, dkL, Option.map_some, Option.map_none, List.map_cons, List.map_nil, List.getElem?_cons_succ, List.getElem?_cons_zero, List.set_cons_succ, List.set_cons_zero, List.cons_append, List.nil_append, List.length_cons, List.length_nil, Nat.reduceSub, List.reduceReplicate, List.replicate_succ, List.replicate_zero, true_and, and_true, if_true, if_false, Nat.reduceAdd, reduceCtorEq, Nat.zero_add, List.append_nil, ite_true, ite_false, Bool.false_eq_true, Bool.true_eq_false, Nat.reduceMul, Bool.and_true, Bool.true_and, Bool.not_true, Bool.not_false, List.all_cons, List.all_nil]
    refine p_is_pattern hth (hn _ _ ?_)
    clear hn next
    rw [ht]
    refine seq_step fun next hn => ?_; simp only [fnS, inS, sNext, sRet, sRetO, sRetN, sIf, sSet, sSetV, sApp, sFrz, sCell, sPar, sPar3, sTgt, sFor, sWhile, sPut, sTry, sRaise, sExpr, sBrk, sCnt, eName, eC, eOp, eTup, eLst, aNil, aCons, aStar, eIf, eAnd, eOr, eNot, tB, L3.b1, tTru, tAnd', tOr', tNot', eGet, eSl, oNone, oSome, eCall, eFn, iAny, walked, iR1, iR2, iEn, iZp, gN, gTup', gCons', gNil', eLc, wipeD, tYes', eJoin, eSplit, eRepl, eDct, pSem, ePop0, eDZ, eMake, eFld, eFldO, sFldO, eProp, eMeth, eNeg, eRNe, eCh, Rv.d, tru, D.dk, getD', getL, atD, atS, asL, asK, seqOf, slD, cLen, lenD, cBools, cInt1, cBool1, cAbs, cMin2, cMax2, cList, cTuple, cIsi, tyN, cLenO, xNo, vw, D.cmp, cmpL, D.dep, depL, deq, deqL, D.isN, D.noCst, memD, opAdd, opSub, opMul, opMul', opDiv, opMod, opPow, opI2, opB2, opOrd, opLt, opLe, opGt, opGe, opEq, opNe, opIsN, opNotN, opIn, opNotIn, noOwn, Rv.own, lookF, blOf, strsOf, dkL, Option.map_some, Option.map_none, List.map_cons, List.map_nil, List.getElem?_cons_succ, List.getElem?_cons_zero, List.set_cons_succ, List.set_cons_zero, List.cons_append, List.nil_append, List.length_cons, List.length_nil, Nat.reduceSub, List.reduceReplicate, List.replicate_succ, List.replicate_zero, true_and, and_true, if_true, if_false, Nat.reduceAdd, reduceCtorEq, Nat.zero_add, List.append_nil, ite_true, ite_false, Bool.false_eq_true, Bool.true_eq_false, Nat.reduceMul, Bool.and_true, Bool.true_and, Bool.not_true, Bool.not_false, List.all_cons, List.all_nil]
    refine ⟨rfl, by decide, ?_⟩
    rw [if_neg (by simp [patD])]
    refine hn _ _ ?_
    clear hn next
    obtain ⟨s', e', hl⟩ := text_of hth ht
    cases e'
    simp only [fnS, inS, sNext, sRet, sRetO, sRetN, sIf, sSet, sSetV, sApp, sFrz, sCell, sPar, sPar3, sTgt, sFor, sWhile, sPut, sTry, sRaise, sExpr, sBrk, sCnt, eName, eC, eOp, eTup, eLst, aNil, aCons, aStar, eIf, eAnd, eOr, eNot, tB, L3.b1, tTru, tAnd', tOr', tNot', eGet, eSl, oNone, oSome, eCall, eFn, iAny, walked, iR1, iR2, iEn, iZp, gN, gTup', gCons', gNil', eLc, wipeD, tYes', eJoin, eSplit, eRepl, eDct, pSem, ePop0, eDZ, eMake, eFld, eFldO, sFldO, eProp, eMeth, eNeg, eRNe, eCh, Rv.d, tru, D.dk, getD', getL, atD, atS, asL, asK, seqOf, slD, cLen, lenD, cBools, cInt1, cBool1, cAbs, cMin2, cMax2, cList, cTuple, cIsi, tyN, cLenO, xNo, vw, D.cmp, cmpL, D.dep, depL, deq, deqL, D.isN, D.noCst, memD, opAdd, opSub, opMul, opMul', opDiv, opMod, opPow, opI2, opB2, opOrd, opLt, opLe, opGt, opGe, opEq, opNe, opIsN, opNotN, opIn, opNotIn, noOwn, Rv.own, lookF, blOf, strsOf, dkL, Option.map_some, Option.map_none, List.map_cons, List.map_nil, List.getElem?_cons_succ, List.getElem?_cons_zero, List.set_cons_succ, List.set_cons_zero, List.cons_append, List.nil_append, List.length_cons, List.length_nil, Nat.reduceSub, List.reduceReplicate, List.replicate_succ, List.replicate_zero, true_and, and_true, if_true, if_false, Nat.reduceAdd, reduceCtorEq, Nat.zero_add, List.append_nil, ite_true, ite_false, Bool.false_eq_true, Bool.true_eq_false, Nat.reduceMul, Bool.and_true, Bool.true_and, Bool.not_true, Bool.not_false, List.all_cons, List.all_nil]
    refine seq_step fun next hn => ?_; simp only [fnS, inS, sNext, sRet, sRetO, sRetN, sIf, sSet, sSetV, sApp, sFrz, sCell, sPar, sPar3, sTgt, sFor, sWhile, sPut, sTry, sRaise, sExpr, sBrk, sCnt, eName, eC, eOp, eTup, eLst, aNil, aCons, aStar, eIf, eAnd, eOr, eNot, tB, L3.b1, tTru, tAnd', tOr', tNot', eGet, eSl, oNone, oSome, eCall, eFn, iAny, walked, iR1, iR2, iEn, iZp, gN, gTup', gCons', gNil', eLc, wipeD, tYes', eJoin, eSplit, eRepl, eDct, pSem, ePop0, eDZ, eMake, eFld, eFldO, sFldO, eProp, eMeth, eNeg, eRNe, eCh, Rv.d, tru, D.dk, getD', getL, atD, atS, asL, asK, seqOf, slD, cLen, lenD, cBools, cInt1, cBool1, cAbs, cMin2, cMax2, cList, cTuple, cIsi, tyN, cLenO, xNo, vw, D.cmp, cmpL, D.dep, depL, deq, deqL, D.isN, D.noCst, memD, opAdd, opSub, opMul, opMul', opDiv, opMod, opPow, opI2, opB2, opOrd, opLt, opLe, opGt, opGe, opEq, opNe, opIsN, opNotN, opIn, opNotIn, noOwn, Rv.own, lookF, blOf, strsOf, dkL, Option.map_some, Option.map_none, List.map_cons, List.map_nil, List.getElem?_cons_succ, List.getElem?_cons_zero, List.set_cons_succ, List.set_cons_zero, List.cons_append, List.nil_append, List.length_cons, List.length_nil, Nat.reduceSub, List.reduceReplicate, List.replicate_succ, List.replicate_zero, true_and, and_true, if_true, if_false, Nat.reduceAdd, reduceCtorEq, Nat.zero_add, List.append_nil, ite_true, ite_false, Bool.false_eq_true, Bool.true_eq_false, Nat.reduceMul, Bool.and_true, Bool.true_and, Bool.not_true, Bool.not_false, List.all_cons, List.all_nil]
    refine p_parsed (by omega) ?_
    simp only [fnS, inS, sNext, sRet, sRetO, sRetN, sIf, sSet, sSetV, sApp, sFrz, sCell, sPar, sPar3, sTgt, sFor, sWhile, sPut, sTry, sRaise, sExpr, sBrk, sCnt, eName, eC, eOp, eTup, eLst, aNil, aCons, aStar, eIf, eAnd, eOr, eNot, tB, L3.b1, tTru, tAnd', tOr', tNot', eGet, eSl, oNone, oSome, eCall, eFn, iAny, walked, iR1, iR2, iEn, iZp, gN, gTup', gCons', gNil', eLc, wipeD, tYes', eJoin, eSplit, eRepl, eDct, pSem, ePop0, eDZ, eMake, eFld, eFldO, sFldO, eProp, eMeth, eNeg, eRNe, eCh, Rv.d, tru, D.dk, getD', getL, atD, atS, asL, asK, seqOf, slD, cLen, lenD, cBools, cInt1, cBool1, cAbs, cMin2, cMax2, cList, cTuple, cIsi, tyN, cLenO, xNo, vw, D.cmp, cmpL, D.dep, depL, deq, deqL, D.isN, D.noCst, memD, opAdd, opSub, opMul, opMul', opDiv, opMod, opPow, opI2, opB2, opOrd, opLt, opLe, opGt, opGe, opEq, opNe, opIsN, opNotN, opIn, opNotIn, noOwn, Rv.own, lookF, blOf, strsOf, dkL, Option.map_some, Option.map_none, List.map_cons, List.map_nil, List.getElem?_cons_succ, List.getElem?_cons_zero, List.set_cons_succ, List.set_cons_zero, List.cons_append, List.nil_append, List.length_cons, List.length_nil, Nat.reduceSub, List.reduceReplicate, List.replicate_succ, List.replicate_zero, true_and, and_true, if_true, if_false, Nat.reduceAdd, reduceCtorEq, Nat.zero_add, List.append_nil, ite_true, ite_false, Bool.false_eq_true, Bool.true_eq_false, Nat.reduceMul, Bool.and_true, Bool.true_and, Bool.not_true, Bool.not_false, List.all_cons, List.all_nil]
    refine hn _ _ ?_
    clear hn next
    refine seq_step fun next hn => ?_; simp only [fnS, inS, sNext, sRet, sRetO, sRetN, sIf, sSet, sSetV, sApp, sFrz, sCell, sPar, sPar3, sTgt, sFor, sWhile, sPut, sTry, sRaise, sExpr, sBrk, sCnt, eName, eC, eOp, eTup, eLst, aNil, aCons, aStar, eIf, eAnd, eOr, eNot, tB, L3.b1, tTru, tAnd', tOr', tNot', eGet, eSl, oNone, oSome, eCall, eFn, iAny, walked, iR1, iR2, iEn, iZp, gN, gTup', gCons', gNil', eLc, wipeD, tYes', eJoin, eSplit, eRepl, eDct, pSem, ePop0, eDZ, eMake, eFld, eFldO, sFldO, eProp, eMeth, eNeg, eRNe, eCh, Rv.d, tru, D.dk, getD', getL, atD, atS, asL, asK, seqOf, slD, cLen, lenD, cBools, cInt1, cBool1, cAbs, cMin2, cMax2, cList, cTuple, cIsi, tyN, cLenO, xNo, vw, D.cmp, cmpL, D.dep, depL, deq, deqL, D.isN, D.noCst, memD, opAdd, opSub, opMul, opMul', opDiv, opMod, opPow, opI2, opB2, opOrd, opLt, opLe, opGt, opGe, opEq, opNe, opIsN, opNotN, opIn, opNotIn, noOwn, Rv.own, lookF, blOf, strsOf, dkL, Option.map_some, Option.map_none, List.map_cons, List.map_nil, List.getElem?_cons_succ, List.getElem?_cons_zero, List.set_cons_succ, List.set_cons_zero, List.cons_append, List.nil_append, List.length_cons, List.length_nil, Nat.reduceSub, List.reduceReplicate, List.replicate_succ, List.replicate_zero, true_and, and_true, if_true, if_false, Nat.reduceAdd, reduceCtorEq, Nat.zero_add, List.append_nil, ite_true, ite_false, Bool.false_eq_true, Bool.true_eq_false, Nat.reduceMul, Bool.and_true, Bool.true_and, Bool.not_true, Bool.not_false, List.all_cons, List.all_nil]
    have hp := parse_tot s []
    have hpl := tot_len (parse [] s).1
    simp only [List.length_nil, Nat.zero_add] at hp
    refine (⟨rfl, p_text ?_⟩ : (3 : Nat) = 3 ∧ _)
    refine (⟨rfl, p_steps ?_⟩ : (3 : Nat) = 3 ∧ _)
    refine (⟨rfl, p_tail ?_⟩ : (3 : Nat) = 3 ∧ _)
    refine (⟨rfl, p_len ?_⟩ : (3 : Nat) = 3 ∧ _)
    refine ⟨rfl, by omega, by omega, sz (by decide), hn _ _ ?_⟩
    clear hn next
    simp only [fnS, inS, sNext, sRet, sRetO, sRetN, sIf, sSet, sSetV, sApp, sFrz, sCell, sPar, sPar3, sTgt, sFor, sWhile, sPut, sTry, sRaise, sExpr, sBrk, sCnt, eName, eC, eOp, eTup, eLst, aNil, aCons, aStar, eIf, eAnd, eOr, eNot, tB, L3.b1, tTru, tAnd', tOr', tNot', eGet, eSl, oNone, oSome, eCall, eFn, iAny, walked, iR1, iR2, iEn, iZp, gN, gTup', gCons', gNil', eLc, wipeD, tYes', eJoin, eSplit, eRepl, eDct, pSem, ePop0, eDZ, eMake, eFld, eFldO, sFldO, eProp, eMeth, eNeg, eRNe, eCh, Rv.d, tru, D.dk, getD', getL, atD, atS, asL, asK, seqOf, slD, cLen, lenD, cBools, cInt1, cBool1, cAbs, cMin2, cMax2, cList, cTuple, cIsi, tyN, cLenO, xNo, vw, D.cmp, cmpL, D.dep, depL, deq, deqL, D.isN, D.noCst, memD, opAdd, opSub, opMul, opMul', opDiv, opMod, opPow, opI2, opB2, opOrd, opLt, opLe, opGt, opGe, opEq, opNe, opIsN, opNotN, opIn, opNotIn, noOwn, Rv.own, lookF, blOf, strsOf, dkL, Option.map_some, Option.map_none, List.map_cons, List.map_nil, List.getElem?_cons_succ, List.getElem?_cons_zero, List.set_cons_succ, List.set_cons_zero, List.cons_append, List.nil_append, List.length_cons, List.length_nil, Nat.reduceSub, List.reduceReplicate, List.replicate_succ, List.replicate_zero, true_and, and_true, if_true, if_false, Nat.reduceAdd, reduceCtorEq, Nat.zero_add, List.append_nil, ite_true, ite_false, Bool.false_eq_true, Bool.true_eq_false, Nat.reduceMul, Bool.and_true, Bool.true_and, Bool.not_true, Bool.not_false, List.all_cons, List.all_nil]
    have hl2 : (parse [] s).1.length ≤ 400 := by omega
    obtain ⟨p, hp1⟩ := told_ok (μ := μ) ht hl2
    refine ⟨p, hp1, sz (by decide), p, ?_, ?_⟩
    · rw [show (stD (parse [] s).1).length = (parse [] s).1.length by simp [stD]]
      exact hp1
    · rw [if_neg (by simp)]
      exact fin _ _ _ _ _ _ _
end L3

namespace L3
open PySem PySem.Spec L2
open PyProof.Rows hiding St
set_option autoImplicit false
theorem exm_at {K : PySem.W.Frag} {A B : Addr} {b : Bool} (h1 : PySem.W.subIn K (.ref B) (.type "BaseException") = some true) (h2 : PySem.W.isClsIn K B = true) (h3 : PySem.W.typeIn K (.ref B) = some (.type "type")) (h4 : PySem.W.subIn K (.ref A) (.ref B) = some b) :
    PySem.W.exmOne K (.ref A) (.ref B) = some b := by
  have k1 : (PySem.W.subIn K (.ref B) (.type "BaseException") == some true) = true := by rw [h1]; rfl
  have k0 : (PySem.W.clsIn K B).isSome = true := h2
  have k2 : ((PySem.W.clsIn K B).isSome && PySem.W.typeIn K (.ref B) == some (.type "type")) = true := by rw [k0, h3]; rfl
  show (if (PySem.W.subIn K (.ref B) (.type "BaseException") == some true) = true then (if ((PySem.W.clsIn K B).isSome && PySem.W.typeIn K (.ref B) == some (.type "type")) = true then PySem.W.subIn K (.ref A) (.ref B) else none) else none) = some b
  rw [if_pos k1, if_pos k2]
  exact h4
theorem all_mk {P : Program} {w : World} {K : PySem.W.Frag} {h : Heap} {mg : Str → Option Value} {fa : Addr} (X : K.In h) (G : h.Ns mainGlobals mg) (hfa : mg "law" = some (.ref fa))
    {C_NoPattern : Addr}
    {C_Pattern : Addr}
    {f_L_begun : Addr} {od_L_begun an_L_begun : Option Addr} {sl_L_begun : Array (Option Value)} {oc_L_begun kV_L_begun dc_L_begun pm_L_begun cd_L_begun ct_L_begun : Value}
    {f_Pattern_len : Addr} {od_Pattern_len an_Pattern_len : Option Addr} {sl_Pattern_len : Array (Option Value)} {oc_Pattern_len kV_Pattern_len dc_Pattern_len pm_Pattern_len cd_Pattern_len ct_Pattern_len : Value}
    {f_L_mixed : Addr} {od_L_mixed an_L_mixed : Option Addr} {sl_L_mixed : Array (Option Value)} {oc_L_mixed kV_L_mixed dc_L_mixed pm_L_mixed cd_L_mixed ct_L_mixed : Value}
    {f_L_take : Addr} {od_L_take an_L_take : Option Addr} {sl_L_take : Array (Option Value)} {oc_L_take kV_L_take dc_L_take pm_L_take cd_L_take ct_L_take : Value}
    {f_L_pick : Addr} {od_L_pick an_L_pick : Option Addr} {sl_L_pick : Array (Option Value)} {oc_L_pick kV_L_pick dc_L_pick pm_L_pick cd_L_pick ct_L_pick : Value}
    {f_L_word : Addr} {od_L_word an_L_word : Option Addr} {sl_L_word : Array (Option Value)} {oc_L_word kV_L_word dc_L_word pm_L_word cd_L_word ct_L_word : Value}
    {f_L_ribbon : Addr} {od_L_ribbon an_L_ribbon : Option Addr} {sl_L_ribbon : Array (Option Value)} {oc_L_ribbon kV_L_ribbon dc_L_ribbon pm_L_ribbon cd_L_ribbon ct_L_ribbon : Value}
    {f_L_bent : Addr} {od_L_bent an_L_bent : Option Addr} {sl_L_bent : Array (Option Value)} {oc_L_bent kV_L_bent dc_L_bent pm_L_bent cd_L_bent ct_L_bent : Value}
    {f_L_drawn : Addr} {od_L_drawn an_L_drawn : Option Addr} {sl_L_drawn : Array (Option Value)} {oc_L_drawn kV_L_drawn dc_L_drawn pm_L_drawn cd_L_drawn ct_L_drawn : Value}
    {f_is_text : Addr} {od_is_text an_is_text : Option Addr} {sl_is_text : Array (Option Value)} {oc_is_text kV_is_text dc_is_text pm_is_text cd_is_text ct_is_text : Value}
    {f_steps_of : Addr} {od_steps_of an_steps_of : Option Addr} {sl_steps_of : Array (Option Value)} {oc_steps_of kV_steps_of dc_steps_of pm_steps_of cd_steps_of ct_steps_of : Value}
    {f_tail_of : Addr} {od_tail_of an_tail_of : Option Addr} {sl_tail_of : Array (Option Value)} {oc_tail_of kV_tail_of dc_tail_of pm_tail_of cd_tail_of ct_tail_of : Value}
    {f_places : Addr} {od_places an_places : Option Addr} {sl_places : Array (Option Value)} {oc_places kV_places dc_places pm_places cd_places ct_places : Value}
    {f_gaps : Addr} {od_gaps an_gaps : Option Addr} {sl_gaps : Array (Option Value)} {oc_gaps kV_gaps dc_gaps pm_gaps cd_gaps ct_gaps : Value}
    {f_root : Addr} {od_root an_root : Option Addr} {sl_root : Array (Option Value)} {oc_root kV_root dc_root pm_root cd_root ct_root : Value}
    {f_is_periodic : Addr} {od_is_periodic an_is_periodic : Option Addr} {sl_is_periodic : Array (Option Value)} {oc_is_periodic kV_is_periodic dc_is_periodic pm_is_periodic cd_is_periodic ct_is_periodic : Value}
    {f_period_of : Addr} {od_period_of an_period_of : Option Addr} {sl_period_of : Array (Option Value)} {oc_period_of kV_period_of dc_period_of pm_period_of cd_period_of ct_period_of : Value}
    {f_normal_text : Addr} {od_normal_text an_normal_text : Option Addr} {sl_normal_text : Array (Option Value)} {oc_normal_text kV_normal_text dc_normal_text pm_normal_text cd_normal_text ct_normal_text : Value}
    {f_Pattern_init : Addr} {od_Pattern_init an_Pattern_init : Option Addr} {sl_Pattern_init : Array (Option Value)} {oc_Pattern_init kV_Pattern_init dc_Pattern_init pm_Pattern_init cd_Pattern_init ct_Pattern_init : Value}
    {f_L_made : Addr} {od_L_made an_L_made : Option Addr} {sl_L_made : Array (Option Value)} {oc_L_made kV_L_made dc_L_made pm_L_made cd_L_made ct_L_made : Value}
    {f_L_is_pattern : Addr} {od_L_is_pattern an_L_is_pattern : Option Addr} {sl_L_is_pattern : Array (Option Value)} {oc_L_is_pattern kV_L_is_pattern dc_L_is_pattern pm_L_is_pattern cd_L_is_pattern ct_L_is_pattern : Value}
    {f_L_parsed : Addr} {od_L_parsed an_L_parsed : Option Addr} {sl_L_parsed : Array (Option Value)} {oc_L_parsed kV_L_parsed dc_L_parsed pm_L_parsed cd_L_parsed ct_L_parsed : Value}
    {f_Pattern_text : Addr} {od_Pattern_text an_Pattern_text : Option Addr} {sl_Pattern_text : Array (Option Value)} {oc_Pattern_text kV_Pattern_text dc_Pattern_text pm_Pattern_text cd_Pattern_text ct_Pattern_text : Value}
    {p_Pattern_text : Addr} {r_Pattern_text : List Value}
    {f_Pattern_steps : Addr} {od_Pattern_steps an_Pattern_steps : Option Addr} {sl_Pattern_steps : Array (Option Value)} {oc_Pattern_steps kV_Pattern_steps dc_Pattern_steps pm_Pattern_steps cd_Pattern_steps ct_Pattern_steps : Value}
    {p_Pattern_steps : Addr} {r_Pattern_steps : List Value}
    {f_Pattern_tail : Addr} {od_Pattern_tail an_Pattern_tail : Option Addr} {sl_Pattern_tail : Array (Option Value)} {oc_Pattern_tail kV_Pattern_tail dc_Pattern_tail pm_Pattern_tail cd_Pattern_tail ct_Pattern_tail : Value}
    {p_Pattern_tail : Addr} {r_Pattern_tail : List Value}
    {f_law : Addr} {od_law an_law : Option Addr} {sl_law : Array (Option Value)} {oc_law kV_law dc_law pm_law cd_law ct_law : Value}
    {t_LETTERS : Tok}
    {t_MOST_SIGNS : Tok}
    {tv_Pattern_MOST : Tok}
    (a_NoPattern : PySem.W.nsIn K mainGlobals "NoPattern" = some (some (.ref C_NoPattern)))
    (a_Pattern : PySem.W.nsIn K mainGlobals "Pattern" = some (some (.ref C_Pattern)))
    (a_L_begun : PySem.W.nsIn K mainGlobals "_law_begun" = some (some (.ref f_L_begun)))
    (l_L_begun : K.lookup f_L_begun = some ⟨oc_L_begun, od_L_begun, .func (PySem.W.fnOf "_law_begun" "_law_begun" (defArgs st_L_begun) (defBody st_L_begun) (defScope st_L_begun) .none kV_L_begun dc_L_begun pm_L_begun an_L_begun cd_L_begun ct_L_begun), sl_L_begun⟩)
    (c_L_begun : PySem.W.codeIn K cd_L_begun "_law_begun" = true)
    (k_L_begun : PySem.W.keepIn K (.ref f_L_begun) = true)
    (a_Pattern_len : PySem.W.findIn K (.ref C_Pattern) "__len__" = some (some (.ref f_Pattern_len)))
    (i_Pattern_len : PySem.W.isFn K (.ref f_Pattern_len) = true)
    (l_Pattern_len : K.lookup f_Pattern_len = some ⟨oc_Pattern_len, od_Pattern_len, .func (PySem.W.fnOf "__len__" "Pattern.__len__" (defArgs st_Pattern_len) (defBody st_Pattern_len) (defScope st_Pattern_len) .none kV_Pattern_len dc_Pattern_len pm_Pattern_len an_Pattern_len cd_Pattern_len ct_Pattern_len), sl_Pattern_len⟩)
    (c_Pattern_len : PySem.W.codeIn K cd_Pattern_len "Pattern.__len__" = true)
    (k_Pattern_len : PySem.W.keepIn K (.ref f_Pattern_len) = true)
    (a_L_mixed : PySem.W.nsIn K mainGlobals "_law_mixed" = some (some (.ref f_L_mixed)))
    (l_L_mixed : K.lookup f_L_mixed = some ⟨oc_L_mixed, od_L_mixed, .func (PySem.W.fnOf "_law_mixed" "_law_mixed" (defArgs st_L_mixed) (defBody st_L_mixed) (defScope st_L_mixed) .none kV_L_mixed dc_L_mixed pm_L_mixed an_L_mixed cd_L_mixed ct_L_mixed), sl_L_mixed⟩)
    (c_L_mixed : PySem.W.codeIn K cd_L_mixed "_law_mixed" = true)
    (k_L_mixed : PySem.W.keepIn K (.ref f_L_mixed) = true)
    (a_L_take : PySem.W.nsIn K mainGlobals "_law_take" = some (some (.ref f_L_take)))
    (l_L_take : K.lookup f_L_take = some ⟨oc_L_take, od_L_take, .func (PySem.W.fnOf "_law_take" "_law_take" (defArgs st_L_take) (defBody st_L_take) (defScope st_L_take) .none kV_L_take dc_L_take pm_L_take an_L_take cd_L_take ct_L_take), sl_L_take⟩)
    (c_L_take : PySem.W.codeIn K cd_L_take "_law_take" = true)
    (k_L_take : PySem.W.keepIn K (.ref f_L_take) = true)
    (a_L_pick : PySem.W.nsIn K mainGlobals "_law_pick" = some (some (.ref f_L_pick)))
    (l_L_pick : K.lookup f_L_pick = some ⟨oc_L_pick, od_L_pick, .func (PySem.W.fnOf "_law_pick" "_law_pick" (defArgs st_L_pick) (defBody st_L_pick) (defScope st_L_pick) .none kV_L_pick dc_L_pick pm_L_pick an_L_pick cd_L_pick ct_L_pick), sl_L_pick⟩)
    (c_L_pick : PySem.W.codeIn K cd_L_pick "_law_pick" = true)
    (k_L_pick : PySem.W.keepIn K (.ref f_L_pick) = true)
    (a_L_word : PySem.W.nsIn K mainGlobals "_law_word" = some (some (.ref f_L_word)))
    (l_L_word : K.lookup f_L_word = some ⟨oc_L_word, od_L_word, .func (PySem.W.fnOf "_law_word" "_law_word" (defArgs st_L_word) (defBody st_L_word) (defScope st_L_word) .none kV_L_word dc_L_word pm_L_word an_L_word cd_L_word ct_L_word), sl_L_word⟩)
    (c_L_word : PySem.W.codeIn K cd_L_word "_law_word" = true)
    (k_L_word : PySem.W.keepIn K (.ref f_L_word) = true)
    (a_L_ribbon : PySem.W.nsIn K mainGlobals "_law_ribbon" = some (some (.ref f_L_ribbon)))
    (l_L_ribbon : K.lookup f_L_ribbon = some ⟨oc_L_ribbon, od_L_ribbon, .func (PySem.W.fnOf "_law_ribbon" "_law_ribbon" (defArgs st_L_ribbon) (defBody st_L_ribbon) (defScope st_L_ribbon) .none kV_L_ribbon dc_L_ribbon pm_L_ribbon an_L_ribbon cd_L_ribbon ct_L_ribbon), sl_L_ribbon⟩)
    (c_L_ribbon : PySem.W.codeIn K cd_L_ribbon "_law_ribbon" = true)
    (k_L_ribbon : PySem.W.keepIn K (.ref f_L_ribbon) = true)
    (a_L_bent : PySem.W.nsIn K mainGlobals "_law_bent" = some (some (.ref f_L_bent)))
    (l_L_bent : K.lookup f_L_bent = some ⟨oc_L_bent, od_L_bent, .func (PySem.W.fnOf "_law_bent" "_law_bent" (defArgs st_L_bent) (defBody st_L_bent) (defScope st_L_bent) .none kV_L_bent dc_L_bent pm_L_bent an_L_bent cd_L_bent ct_L_bent), sl_L_bent⟩)
    (c_L_bent : PySem.W.codeIn K cd_L_bent "_law_bent" = true)
    (k_L_bent : PySem.W.keepIn K (.ref f_L_bent) = true)
    (a_L_drawn : PySem.W.nsIn K mainGlobals "_law_drawn" = some (some (.ref f_L_drawn)))
    (l_L_drawn : K.lookup f_L_drawn = some ⟨oc_L_drawn, od_L_drawn, .func (PySem.W.fnOf "_law_drawn" "_law_drawn" (defArgs st_L_drawn) (defBody st_L_drawn) (defScope st_L_drawn) .none kV_L_drawn dc_L_drawn pm_L_drawn an_L_drawn cd_L_drawn ct_L_drawn), sl_L_drawn⟩)
    (c_L_drawn : PySem.W.codeIn K cd_L_drawn "_law_drawn" = true)
    (k_L_drawn : PySem.W.keepIn K (.ref f_L_drawn) = true)
    (a_is_text : PySem.W.nsIn K mainGlobals "is_text" = some (some (.ref f_is_text)))
    (l_is_text : K.lookup f_is_text = some ⟨oc_is_text, od_is_text, .func (PySem.W.fnOf "is_text" "is_text" (defArgs st_is_text) (defBody st_is_text) (defScope st_is_text) .none kV_is_text dc_is_text pm_is_text an_is_text cd_is_text ct_is_text), sl_is_text⟩)
    (c_is_text : PySem.W.codeIn K cd_is_text "is_text" = true)
    (k_is_text : PySem.W.keepIn K (.ref f_is_text) = true)
    (a_steps_of : PySem.W.nsIn K mainGlobals "steps_of" = some (some (.ref f_steps_of)))
    (l_steps_of : K.lookup f_steps_of = some ⟨oc_steps_of, od_steps_of, .func (PySem.W.fnOf "steps_of" "steps_of" (defArgs st_steps_of) (defBody st_steps_of) (defScope st_steps_of) .none kV_steps_of dc_steps_of pm_steps_of an_steps_of cd_steps_of ct_steps_of), sl_steps_of⟩)
    (c_steps_of : PySem.W.codeIn K cd_steps_of "steps_of" = true)
    (k_steps_of : PySem.W.keepIn K (.ref f_steps_of) = true)
    (a_tail_of : PySem.W.nsIn K mainGlobals "tail_of" = some (some (.ref f_tail_of)))
    (l_tail_of : K.lookup f_tail_of = some ⟨oc_tail_of, od_tail_of, .func (PySem.W.fnOf "tail_of" "tail_of" (defArgs st_tail_of) (defBody st_tail_of) (defScope st_tail_of) .none kV_tail_of dc_tail_of pm_tail_of an_tail_of cd_tail_of ct_tail_of), sl_tail_of⟩)
    (c_tail_of : PySem.W.codeIn K cd_tail_of "tail_of" = true)
    (k_tail_of : PySem.W.keepIn K (.ref f_tail_of) = true)
    (a_places : PySem.W.nsIn K mainGlobals "places" = some (some (.ref f_places)))
    (l_places : K.lookup f_places = some ⟨oc_places, od_places, .func (PySem.W.fnOf "places" "places" (defArgs st_places) (defBody st_places) (defScope st_places) .none kV_places dc_places pm_places an_places cd_places ct_places), sl_places⟩)
    (c_places : PySem.W.codeIn K cd_places "places" = true)
    (k_places : PySem.W.keepIn K (.ref f_places) = true)
    (a_gaps : PySem.W.nsIn K mainGlobals "gaps" = some (some (.ref f_gaps)))
    (l_gaps : K.lookup f_gaps = some ⟨oc_gaps, od_gaps, .func (PySem.W.fnOf "gaps" "gaps" (defArgs st_gaps) (defBody st_gaps) (defScope st_gaps) .none kV_gaps dc_gaps pm_gaps an_gaps cd_gaps ct_gaps), sl_gaps⟩)
    (c_gaps : PySem.W.codeIn K cd_gaps "gaps" = true)
    (k_gaps : PySem.W.keepIn K (.ref f_gaps) = true)
    (a_root : PySem.W.nsIn K mainGlobals "root" = some (some (.ref f_root)))
    (l_root : K.lookup f_root = some ⟨oc_root, od_root, .func (PySem.W.fnOf "root" "root" (defArgs st_root) (defBody st_root) (defScope st_root) .none kV_root dc_root pm_root an_root cd_root ct_root), sl_root⟩)
    (c_root : PySem.W.codeIn K cd_root "root" = true)
    (k_root : PySem.W.keepIn K (.ref f_root) = true)
    (a_is_periodic : PySem.W.nsIn K mainGlobals "is_periodic" = some (some (.ref f_is_periodic)))
    (l_is_periodic : K.lookup f_is_periodic = some ⟨oc_is_periodic, od_is_periodic, .func (PySem.W.fnOf "is_periodic" "is_periodic" (defArgs st_is_periodic) (defBody st_is_periodic) (defScope st_is_periodic) .none kV_is_periodic dc_is_periodic pm_is_periodic an_is_periodic cd_is_periodic ct_is_periodic), sl_is_periodic⟩)
    (c_is_periodic : PySem.W.codeIn K cd_is_periodic "is_periodic" = true)
    (k_is_periodic : PySem.W.keepIn K (.ref f_is_periodic) = true)
    (a_period_of : PySem.W.nsIn K mainGlobals "period_of" = some (some (.ref f_period_of)))
    (l_period_of : K.lookup f_period_of = some ⟨oc_period_of, od_period_of, .func (PySem.W.fnOf "period_of" "period_of" (defArgs st_period_of) (defBody st_period_of) (defScope st_period_of) .none kV_period_of dc_period_of pm_period_of an_period_of cd_period_of ct_period_of), sl_period_of⟩)
    (c_period_of : PySem.W.codeIn K cd_period_of "period_of" = true)
    (k_period_of : PySem.W.keepIn K (.ref f_period_of) = true)
    (a_normal_text : PySem.W.nsIn K mainGlobals "normal_text" = some (some (.ref f_normal_text)))
    (l_normal_text : K.lookup f_normal_text = some ⟨oc_normal_text, od_normal_text, .func (PySem.W.fnOf "normal_text" "normal_text" (defArgs st_normal_text) (defBody st_normal_text) (defScope st_normal_text) .none kV_normal_text dc_normal_text pm_normal_text an_normal_text cd_normal_text ct_normal_text), sl_normal_text⟩)
    (c_normal_text : PySem.W.codeIn K cd_normal_text "normal_text" = true)
    (k_normal_text : PySem.W.keepIn K (.ref f_normal_text) = true)
    (a_Pattern_init : PySem.W.findIn K (.ref C_Pattern) "__init__" = some (some (.ref f_Pattern_init)))
    (i_Pattern_init : PySem.W.isFn K (.ref f_Pattern_init) = true)
    (l_Pattern_init : K.lookup f_Pattern_init = some ⟨oc_Pattern_init, od_Pattern_init, .func (PySem.W.fnOf "__init__" "Pattern.__init__" (defArgs st_Pattern_init) (defBody st_Pattern_init) (defScope st_Pattern_init) .none kV_Pattern_init dc_Pattern_init pm_Pattern_init an_Pattern_init cd_Pattern_init ct_Pattern_init), sl_Pattern_init⟩)
    (c_Pattern_init : PySem.W.codeIn K cd_Pattern_init "Pattern.__init__" = true)
    (k_Pattern_init : PySem.W.keepIn K (.ref f_Pattern_init) = true)
    (a_L_made : PySem.W.nsIn K mainGlobals "_law_made" = some (some (.ref f_L_made)))
    (l_L_made : K.lookup f_L_made = some ⟨oc_L_made, od_L_made, .func (PySem.W.fnOf "_law_made" "_law_made" (defArgs st_L_made) (defBody st_L_made) (defScope st_L_made) .none kV_L_made dc_L_made pm_L_made an_L_made cd_L_made ct_L_made), sl_L_made⟩)
    (c_L_made : PySem.W.codeIn K cd_L_made "_law_made" = true)
    (k_L_made : PySem.W.keepIn K (.ref f_L_made) = true)
    (a_L_is_pattern : PySem.W.nsIn K mainGlobals "_law_is_pattern" = some (some (.ref f_L_is_pattern)))
    (l_L_is_pattern : K.lookup f_L_is_pattern = some ⟨oc_L_is_pattern, od_L_is_pattern, .func (PySem.W.fnOf "_law_is_pattern" "_law_is_pattern" (defArgs st_L_is_pattern) (defBody st_L_is_pattern) (defScope st_L_is_pattern) .none kV_L_is_pattern dc_L_is_pattern pm_L_is_pattern an_L_is_pattern cd_L_is_pattern ct_L_is_pattern), sl_L_is_pattern⟩)
    (c_L_is_pattern : PySem.W.codeIn K cd_L_is_pattern "_law_is_pattern" = true)
    (k_L_is_pattern : PySem.W.keepIn K (.ref f_L_is_pattern) = true)
    (a_L_parsed : PySem.W.nsIn K mainGlobals "_law_parsed" = some (some (.ref f_L_parsed)))
    (l_L_parsed : K.lookup f_L_parsed = some ⟨oc_L_parsed, od_L_parsed, .func (PySem.W.fnOf "_law_parsed" "_law_parsed" (defArgs st_L_parsed) (defBody st_L_parsed) (defScope st_L_parsed) .none kV_L_parsed dc_L_parsed pm_L_parsed an_L_parsed cd_L_parsed ct_L_parsed), sl_L_parsed⟩)
    (c_L_parsed : PySem.W.codeIn K cd_L_parsed "_law_parsed" = true)
    (k_L_parsed : PySem.W.keepIn K (.ref f_L_parsed) = true)
    (a_Pattern_text : PySem.W.findIn K (.ref C_Pattern) "text" = some (some (.ref p_Pattern_text)))
    (pg_Pattern_text : PySem.W.specialIn K (.ref p_Pattern_text) "__get__" = some (some (.builtin "property.__get__")))
    (pt_Pattern_text : PySem.W.takesIn K (.ref p_Pattern_text) = some true)
    (pr_Pattern_text : PySem.W.recIn K p_Pattern_text "property" = some (.ref f_Pattern_text :: r_Pattern_text))
    (l_Pattern_text : K.lookup f_Pattern_text = some ⟨oc_Pattern_text, od_Pattern_text, .func (PySem.W.fnOf "text" "Pattern.text" (defArgs st_Pattern_text) (defBody st_Pattern_text) (defScope st_Pattern_text) .none kV_Pattern_text dc_Pattern_text pm_Pattern_text an_Pattern_text cd_Pattern_text ct_Pattern_text), sl_Pattern_text⟩)
    (c_Pattern_text : PySem.W.codeIn K cd_Pattern_text "Pattern.text" = true)
    (k_Pattern_text : PySem.W.keepIn K (.ref f_Pattern_text) = true)
    (a_Pattern_steps : PySem.W.findIn K (.ref C_Pattern) "steps" = some (some (.ref p_Pattern_steps)))
    (pg_Pattern_steps : PySem.W.specialIn K (.ref p_Pattern_steps) "__get__" = some (some (.builtin "property.__get__")))
    (pt_Pattern_steps : PySem.W.takesIn K (.ref p_Pattern_steps) = some true)
    (pr_Pattern_steps : PySem.W.recIn K p_Pattern_steps "property" = some (.ref f_Pattern_steps :: r_Pattern_steps))
    (l_Pattern_steps : K.lookup f_Pattern_steps = some ⟨oc_Pattern_steps, od_Pattern_steps, .func (PySem.W.fnOf "steps" "Pattern.steps" (defArgs st_Pattern_steps) (defBody st_Pattern_steps) (defScope st_Pattern_steps) .none kV_Pattern_steps dc_Pattern_steps pm_Pattern_steps an_Pattern_steps cd_Pattern_steps ct_Pattern_steps), sl_Pattern_steps⟩)
    (c_Pattern_steps : PySem.W.codeIn K cd_Pattern_steps "Pattern.steps" = true)
    (k_Pattern_steps : PySem.W.keepIn K (.ref f_Pattern_steps) = true)
    (a_Pattern_tail : PySem.W.findIn K (.ref C_Pattern) "tail" = some (some (.ref p_Pattern_tail)))
    (pg_Pattern_tail : PySem.W.specialIn K (.ref p_Pattern_tail) "__get__" = some (some (.builtin "property.__get__")))
    (pt_Pattern_tail : PySem.W.takesIn K (.ref p_Pattern_tail) = some true)
    (pr_Pattern_tail : PySem.W.recIn K p_Pattern_tail "property" = some (.ref f_Pattern_tail :: r_Pattern_tail))
    (l_Pattern_tail : K.lookup f_Pattern_tail = some ⟨oc_Pattern_tail, od_Pattern_tail, .func (PySem.W.fnOf "tail" "Pattern.tail" (defArgs st_Pattern_tail) (defBody st_Pattern_tail) (defScope st_Pattern_tail) .none kV_Pattern_tail dc_Pattern_tail pm_Pattern_tail an_Pattern_tail cd_Pattern_tail ct_Pattern_tail), sl_Pattern_tail⟩)
    (c_Pattern_tail : PySem.W.codeIn K cd_Pattern_tail "Pattern.tail" = true)
    (k_Pattern_tail : PySem.W.keepIn K (.ref f_Pattern_tail) = true)
    (a_law : PySem.W.nsIn K mainGlobals "law" = some (some (.ref f_law)))
    (l_law : K.lookup f_law = some ⟨oc_law, od_law, .func (PySem.W.fnOf "law" "law" (defArgs st_law) (defBody st_law) (defScope st_law) .none kV_law dc_law pm_law an_law cd_law ct_law), sl_law⟩)
    (c_law : PySem.W.codeIn K cd_law "law" = true)
    (k_law : PySem.W.keepIn K (.ref f_law) = true)
    (z_all : PySem.W.nsIn K mainGlobals "all" = some none)
    (z_dict : PySem.W.nsIn K mainGlobals "dict" = some none)
    (z_enumerate : PySem.W.nsIn K mainGlobals "enumerate" = some none)
    (z_int : PySem.W.nsIn K mainGlobals "int" = some none)
    (z_isinstance : PySem.W.nsIn K mainGlobals "isinstance" = some none)
    (z_len : PySem.W.nsIn K mainGlobals "len" = some none)
    (z_list : PySem.W.nsIn K mainGlobals "list" = some none)
    (z_min : PySem.W.nsIn K mainGlobals "min" = some none)
    (z_range : PySem.W.nsIn K mainGlobals "range" = some none)
    (z_repr : PySem.W.nsIn K mainGlobals "repr" = some none)
    (z_str : PySem.W.nsIn K mainGlobals "str" = some none)
    (z_tuple : PySem.W.nsIn K mainGlobals "tuple" = some none)
    (z_zip : PySem.W.nsIn K mainGlobals "zip" = some none)
    (v_LETTERS : PySem.W.nsIn K mainGlobals "LETTERS" = some (some (.str "abcdefghijklmnopqrstuvwxyz" t_LETTERS)))
    (v_MOST_SIGNS : PySem.W.nsIn K mainGlobals "MOST_SIGNS" = some (some (.int 400 t_MOST_SIGNS)))
    (pg_Pattern : PySem.W.plainGet K C_Pattern Str.empty = true)
    (hd_Pattern : PySem.W.hasDictIn K C_Pattern = true)
    (po_Pattern : PySem.W.plainOver K C_Pattern = true)
    (sa_Pattern : PySem.W.findIn K (.ref C_Pattern) "__setattr__" = some (some (.builtin "object.__setattr__")))
    (no_Pattern_given : PySem.W.findIn K (.ref C_Pattern) "given" = some none)
    (no_Pattern_parts : PySem.W.findIn K (.ref C_Pattern) "parts" = some none)
    (no_Pattern_end : PySem.W.findIn K (.ref C_Pattern) "end" = some none)
    (no_Pattern_standard : PySem.W.findIn K (.ref C_Pattern) "standard" = some none)
    (mk_Pattern : PySem.W.makesIn K C_Pattern = true)
    (kc_Pattern : PySem.W.keepIn K (.ref C_Pattern) = true)
    (rd_Pattern : PySem.W.readsIn K C_Pattern (.type "type") = true)
    (ga_Pattern : PySem.W.specialIn K (.ref C_Pattern) "__getattribute__" = some (some (.builtin "type.__getattribute__")))
    (cv_Pattern_MOST : PySem.W.findCls K (.ref C_Pattern) (.type "type") "MOST" = some (.val (.int 400 tv_Pattern_MOST)))
    (x_NoPattern : PySem.W.excIn K C_NoPattern [.type "ValueError", .type "Exception", .type "BaseException", .type "object"] "ValueError.__new__" = true)
    (kx_NoPattern : PySem.W.keepIn K (.ref C_NoPattern) = true)
    (bx_NoPattern : PySem.W.subIn K (.ref C_NoPattern) (.type "BaseException") = some true)
    (tx_NoPattern : PySem.W.typeIn K (.ref C_NoPattern) = some (.type "type"))
    (ix_NoPattern : PySem.W.isClsIn K C_NoPattern = true)
    (sx_NoPattern : PySem.W.subIn K (.ref C_NoPattern) (.ref C_NoPattern) = some true)
    : ∃ (fd : FuncData) (T : Tab), (∀ (s : Shared) (u : Value), BindsTo s fd ⟨[u], []⟩ [("_law_script", u)]) ∧ ∀ base : Heap, K.In base → base.Ns mainGlobals mg → FnM 0 P w K mg base (L2.CX P w) 8 fa fd ["_law_script"] (spD K T 1 L3.f_law) := by
  have e := hfa.symm.trans (PySem.W.mg_of X G a_law)
  cases e
  let Z : Wd K mg := {
    C_NoPattern := C_NoPattern
    m_NoPattern := PySem.W.mg_of X G a_NoPattern
    C_Pattern := C_Pattern
    m_Pattern := PySem.W.mg_of X G a_Pattern
    f_L_begun := f_L_begun
    d_L_begun := (PySem.W.fnOf "_law_begun" "_law_begun" (defArgs st_L_begun) (defBody st_L_begun) (defScope st_L_begun) .none kV_L_begun dc_L_begun pm_L_begun an_L_begun cd_L_begun ct_L_begun)
    F_L_begun := fun_mk (st := st_L_begun) l_L_begun c_L_begun k_L_begun
    b_L_begun := (fun_mk (st := st_L_begun) l_L_begun c_L_begun k_L_begun).binds (ps := P_L_begun) fun _ _ _ _ _ _ us hl => match us, hl with | [_], _ => rfl
    m_L_begun := PySem.W.mg_of X G a_L_begun
    f_Pattern_len := f_Pattern_len
    d_Pattern_len := (PySem.W.fnOf "__len__" "Pattern.__len__" (defArgs st_Pattern_len) (defBody st_Pattern_len) (defScope st_Pattern_len) .none kV_Pattern_len dc_Pattern_len pm_Pattern_len an_Pattern_len cd_Pattern_len ct_Pattern_len)
    F_Pattern_len := fun_mk (st := st_Pattern_len) l_Pattern_len c_Pattern_len k_Pattern_len
    b_Pattern_len := (fun_mk (st := st_Pattern_len) l_Pattern_len c_Pattern_len k_Pattern_len).binds (ps := P_Pattern_len) fun _ _ _ _ _ _ us hl => match us, hl with | [_], _ => rfl
    l_Pattern_len := ⟨a_Pattern_len, i_Pattern_len⟩
    f_L_mixed := f_L_mixed
    d_L_mixed := (PySem.W.fnOf "_law_mixed" "_law_mixed" (defArgs st_L_mixed) (defBody st_L_mixed) (defScope st_L_mixed) .none kV_L_mixed dc_L_mixed pm_L_mixed an_L_mixed cd_L_mixed ct_L_mixed)
    F_L_mixed := fun_mk (st := st_L_mixed) l_L_mixed c_L_mixed k_L_mixed
    b_L_mixed := (fun_mk (st := st_L_mixed) l_L_mixed c_L_mixed k_L_mixed).binds (ps := P_L_mixed) fun _ _ _ _ _ _ us hl => match us, hl with | [_], _ => rfl
    m_L_mixed := PySem.W.mg_of X G a_L_mixed
    f_L_take := f_L_take
    d_L_take := (PySem.W.fnOf "_law_take" "_law_take" (defArgs st_L_take) (defBody st_L_take) (defScope st_L_take) .none kV_L_take dc_L_take pm_L_take an_L_take cd_L_take ct_L_take)
    F_L_take := fun_mk (st := st_L_take) l_L_take c_L_take k_L_take
    b_L_take := (fun_mk (st := st_L_take) l_L_take c_L_take k_L_take).binds (ps := P_L_take) fun _ _ _ _ _ _ us hl => match us, hl with | [_, _], _ => rfl
    m_L_take := PySem.W.mg_of X G a_L_take
    f_L_pick := f_L_pick
    d_L_pick := (PySem.W.fnOf "_law_pick" "_law_pick" (defArgs st_L_pick) (defBody st_L_pick) (defScope st_L_pick) .none kV_L_pick dc_L_pick pm_L_pick an_L_pick cd_L_pick ct_L_pick)
    F_L_pick := fun_mk (st := st_L_pick) l_L_pick c_L_pick k_L_pick
    b_L_pick := (fun_mk (st := st_L_pick) l_L_pick c_L_pick k_L_pick).binds (ps := P_L_pick) fun _ _ _ _ _ _ us hl => match us, hl with | [_, _], _ => rfl
    m_L_pick := PySem.W.mg_of X G a_L_pick
    f_L_word := f_L_word
    d_L_word := (PySem.W.fnOf "_law_word" "_law_word" (defArgs st_L_word) (defBody st_L_word) (defScope st_L_word) .none kV_L_word dc_L_word pm_L_word an_L_word cd_L_word ct_L_word)
    F_L_word := fun_mk (st := st_L_word) l_L_word c_L_word k_L_word
    b_L_word := (fun_mk (st := st_L_word) l_L_word c_L_word k_L_word).binds (ps := P_L_word) fun _ _ _ _ _ _ us hl => match us, hl with | [_, _], _ => rfl
    m_L_word := PySem.W.mg_of X G a_L_word
    f_L_ribbon := f_L_ribbon
    d_L_ribbon := (PySem.W.fnOf "_law_ribbon" "_law_ribbon" (defArgs st_L_ribbon) (defBody st_L_ribbon) (defScope st_L_ribbon) .none kV_L_ribbon dc_L_ribbon pm_L_ribbon an_L_ribbon cd_L_ribbon ct_L_ribbon)
    F_L_ribbon := fun_mk (st := st_L_ribbon) l_L_ribbon c_L_ribbon k_L_ribbon
    b_L_ribbon := (fun_mk (st := st_L_ribbon) l_L_ribbon c_L_ribbon k_L_ribbon).binds (ps := P_L_ribbon) fun _ _ _ _ _ _ us hl => match us, hl with | [_, _], _ => rfl
    m_L_ribbon := PySem.W.mg_of X G a_L_ribbon
    f_L_bent := f_L_bent
    d_L_bent := (PySem.W.fnOf "_law_bent" "_law_bent" (defArgs st_L_bent) (defBody st_L_bent) (defScope st_L_bent) .none kV_L_bent dc_L_bent pm_L_bent an_L_bent cd_L_bent ct_L_bent)
    F_L_bent := fun_mk (st := st_L_bent) l_L_bent c_L_bent k_L_bent
    b_L_bent := (fun_mk (st := st_L_bent) l_L_bent c_L_bent k_L_bent).binds (ps := P_L_bent) fun _ _ _ _ _ _ us hl => match us, hl with | [_, _], _ => rfl
    m_L_bent := PySem.W.mg_of X G a_L_bent
    f_L_drawn := f_L_drawn
    d_L_drawn := (PySem.W.fnOf "_law_drawn" "_law_drawn" (defArgs st_L_drawn) (defBody st_L_drawn) (defScope st_L_drawn) .none kV_L_drawn dc_L_drawn pm_L_drawn an_L_drawn cd_L_drawn ct_L_drawn)
    F_L_drawn := fun_mk (st := st_L_drawn) l_L_drawn c_L_drawn k_L_drawn
    b_L_drawn := (fun_mk (st := st_L_drawn) l_L_drawn c_L_drawn k_L_drawn).binds (ps := P_L_drawn) fun _ _ _ _ _ _ us hl => match us, hl with | [_], _ => rfl
    m_L_drawn := PySem.W.mg_of X G a_L_drawn
    f_is_text := f_is_text
    d_is_text := (PySem.W.fnOf "is_text" "is_text" (defArgs st_is_text) (defBody st_is_text) (defScope st_is_text) .none kV_is_text dc_is_text pm_is_text an_is_text cd_is_text ct_is_text)
    F_is_text := fun_mk (st := st_is_text) l_is_text c_is_text k_is_text
    b_is_text := (fun_mk (st := st_is_text) l_is_text c_is_text k_is_text).binds (ps := P_is_text) fun _ _ _ _ _ _ us hl => match us, hl with | [_], _ => rfl
    m_is_text := PySem.W.mg_of X G a_is_text
    f_steps_of := f_steps_of
    d_steps_of := (PySem.W.fnOf "steps_of" "steps_of" (defArgs st_steps_of) (defBody st_steps_of) (defScope st_steps_of) .none kV_steps_of dc_steps_of pm_steps_of an_steps_of cd_steps_of ct_steps_of)
    F_steps_of := fun_mk (st := st_steps_of) l_steps_of c_steps_of k_steps_of
    b_steps_of := (fun_mk (st := st_steps_of) l_steps_of c_steps_of k_steps_of).binds (ps := P_steps_of) fun _ _ _ _ _ _ us hl => match us, hl with | [_], _ => rfl
    m_steps_of := PySem.W.mg_of X G a_steps_of
    f_tail_of := f_tail_of
    d_tail_of := (PySem.W.fnOf "tail_of" "tail_of" (defArgs st_tail_of) (defBody st_tail_of) (defScope st_tail_of) .none kV_tail_of dc_tail_of pm_tail_of an_tail_of cd_tail_of ct_tail_of)
    F_tail_of := fun_mk (st := st_tail_of) l_tail_of c_tail_of k_tail_of
    b_tail_of := (fun_mk (st := st_tail_of) l_tail_of c_tail_of k_tail_of).binds (ps := P_tail_of) fun _ _ _ _ _ _ us hl => match us, hl with | [_], _ => rfl
    m_tail_of := PySem.W.mg_of X G a_tail_of
    f_places := f_places
    d_places := (PySem.W.fnOf "places" "places" (defArgs st_places) (defBody st_places) (defScope st_places) .none kV_places dc_places pm_places an_places cd_places ct_places)
    F_places := fun_mk (st := st_places) l_places c_places k_places
    b_places := (fun_mk (st := st_places) l_places c_places k_places).binds (ps := P_places) fun _ _ _ _ _ _ us hl => match us, hl with | [_], _ => rfl
    m_places := PySem.W.mg_of X G a_places
    f_gaps := f_gaps
    d_gaps := (PySem.W.fnOf "gaps" "gaps" (defArgs st_gaps) (defBody st_gaps) (defScope st_gaps) .none kV_gaps dc_gaps pm_gaps an_gaps cd_gaps ct_gaps)
    F_gaps := fun_mk (st := st_gaps) l_gaps c_gaps k_gaps
    b_gaps := (fun_mk (st := st_gaps) l_gaps c_gaps k_gaps).binds (ps := P_gaps) fun _ _ _ _ _ _ us hl => match us, hl with | [_], _ => rfl
    m_gaps := PySem.W.mg_of X G a_gaps
    f_root := f_root
    d_root := (PySem.W.fnOf "root" "root" (defArgs st_root) (defBody st_root) (defScope st_root) .none kV_root dc_root pm_root an_root cd_root ct_root)
    F_root := fun_mk (st := st_root) l_root c_root k_root
    b_root := (fun_mk (st := st_root) l_root c_root k_root).binds (ps := P_root) fun _ _ _ _ _ _ us hl => match us, hl with | [_], _ => rfl
    m_root := PySem.W.mg_of X G a_root
    f_is_periodic := f_is_periodic
    d_is_periodic := (PySem.W.fnOf "is_periodic" "is_periodic" (defArgs st_is_periodic) (defBody st_is_periodic) (defScope st_is_periodic) .none kV_is_periodic dc_is_periodic pm_is_periodic an_is_periodic cd_is_periodic ct_is_periodic)
    F_is_periodic := fun_mk (st := st_is_periodic) l_is_periodic c_is_periodic k_is_periodic
    b_is_periodic := (fun_mk (st := st_is_periodic) l_is_periodic c_is_periodic k_is_periodic).binds (ps := P_is_periodic) fun _ _ _ _ _ _ us hl => match us, hl with | [_, _, _, _], _ => rfl
    m_is_periodic := PySem.W.mg_of X G a_is_periodic
    f_period_of := f_period_of
    d_period_of := (PySem.W.fnOf "period_of" "period_of" (defArgs st_period_of) (defBody st_period_of) (defScope st_period_of) .none kV_period_of dc_period_of pm_period_of an_period_of cd_period_of ct_period_of)
    F_period_of := fun_mk (st := st_period_of) l_period_of c_period_of k_period_of
    b_period_of := (fun_mk (st := st_period_of) l_period_of c_period_of k_period_of).binds (ps := P_period_of) fun _ _ _ _ _ _ us hl => match us, hl with | [_, _, _], _ => rfl
    m_period_of := PySem.W.mg_of X G a_period_of
    f_normal_text := f_normal_text
    d_normal_text := (PySem.W.fnOf "normal_text" "normal_text" (defArgs st_normal_text) (defBody st_normal_text) (defScope st_normal_text) .none kV_normal_text dc_normal_text pm_normal_text an_normal_text cd_normal_text ct_normal_text)
    F_normal_text := fun_mk (st := st_normal_text) l_normal_text c_normal_text k_normal_text
    b_normal_text := (fun_mk (st := st_normal_text) l_normal_text c_normal_text k_normal_text).binds (ps := P_normal_text) fun _ _ _ _ _ _ us hl => match us, hl with | [_, _], _ => rfl
    m_normal_text := PySem.W.mg_of X G a_normal_text
    f_Pattern_init := f_Pattern_init
    d_Pattern_init := (PySem.W.fnOf "__init__" "Pattern.__init__" (defArgs st_Pattern_init) (defBody st_Pattern_init) (defScope st_Pattern_init) .none kV_Pattern_init dc_Pattern_init pm_Pattern_init an_Pattern_init cd_Pattern_init ct_Pattern_init)
    F_Pattern_init := fun_mk (st := st_Pattern_init) l_Pattern_init c_Pattern_init k_Pattern_init
    b_Pattern_init := (fun_mk (st := st_Pattern_init) l_Pattern_init c_Pattern_init k_Pattern_init).binds (ps := P_Pattern_init) fun _ _ _ _ _ _ us hl => match us, hl with | [_, _], _ => rfl
    kb_Pattern_init := fun s x ws _ hl => match ws, hl with | [_], _ => .of_eq rfl
    f_L_made := f_L_made
    d_L_made := (PySem.W.fnOf "_law_made" "_law_made" (defArgs st_L_made) (defBody st_L_made) (defScope st_L_made) .none kV_L_made dc_L_made pm_L_made an_L_made cd_L_made ct_L_made)
    F_L_made := fun_mk (st := st_L_made) l_L_made c_L_made k_L_made
    b_L_made := (fun_mk (st := st_L_made) l_L_made c_L_made k_L_made).binds (ps := P_L_made) fun _ _ _ _ _ _ us hl => match us, hl with | [_, _], _ => rfl
    m_L_made := PySem.W.mg_of X G a_L_made
    f_L_is_pattern := f_L_is_pattern
    d_L_is_pattern := (PySem.W.fnOf "_law_is_pattern" "_law_is_pattern" (defArgs st_L_is_pattern) (defBody st_L_is_pattern) (defScope st_L_is_pattern) .none kV_L_is_pattern dc_L_is_pattern pm_L_is_pattern an_L_is_pattern cd_L_is_pattern ct_L_is_pattern)
    F_L_is_pattern := fun_mk (st := st_L_is_pattern) l_L_is_pattern c_L_is_pattern k_L_is_pattern
    b_L_is_pattern := (fun_mk (st := st_L_is_pattern) l_L_is_pattern c_L_is_pattern k_L_is_pattern).binds (ps := P_L_is_pattern) fun _ _ _ _ _ _ us hl => match us, hl with | [_], _ => rfl
    m_L_is_pattern := PySem.W.mg_of X G a_L_is_pattern
    f_L_parsed := f_L_parsed
    d_L_parsed := (PySem.W.fnOf "_law_parsed" "_law_parsed" (defArgs st_L_parsed) (defBody st_L_parsed) (defScope st_L_parsed) .none kV_L_parsed dc_L_parsed pm_L_parsed an_L_parsed cd_L_parsed ct_L_parsed)
    F_L_parsed := fun_mk (st := st_L_parsed) l_L_parsed c_L_parsed k_L_parsed
    b_L_parsed := (fun_mk (st := st_L_parsed) l_L_parsed c_L_parsed k_L_parsed).binds (ps := P_L_parsed) fun _ _ _ _ _ _ us hl => match us, hl with | [_], _ => rfl
    m_L_parsed := PySem.W.mg_of X G a_L_parsed
    f_Pattern_text := f_Pattern_text
    d_Pattern_text := (PySem.W.fnOf "text" "Pattern.text" (defArgs st_Pattern_text) (defBody st_Pattern_text) (defScope st_Pattern_text) .none kV_Pattern_text dc_Pattern_text pm_Pattern_text an_Pattern_text cd_Pattern_text ct_Pattern_text)
    F_Pattern_text := fun_mk (st := st_Pattern_text) l_Pattern_text c_Pattern_text k_Pattern_text
    b_Pattern_text := (fun_mk (st := st_Pattern_text) l_Pattern_text c_Pattern_text k_Pattern_text).binds (ps := P_Pattern_text) fun _ _ _ _ _ _ us hl => match us, hl with | [_], _ => rfl
    a_Pattern_text := p_Pattern_text
    p_Pattern_text := ⟨a_Pattern_text, pg_Pattern_text, pt_Pattern_text, _, pr_Pattern_text⟩
    f_Pattern_steps := f_Pattern_steps
    d_Pattern_steps := (PySem.W.fnOf "steps" "Pattern.steps" (defArgs st_Pattern_steps) (defBody st_Pattern_steps) (defScope st_Pattern_steps) .none kV_Pattern_steps dc_Pattern_steps pm_Pattern_steps an_Pattern_steps cd_Pattern_steps ct_Pattern_steps)
    F_Pattern_steps := fun_mk (st := st_Pattern_steps) l_Pattern_steps c_Pattern_steps k_Pattern_steps
    b_Pattern_steps := (fun_mk (st := st_Pattern_steps) l_Pattern_steps c_Pattern_steps k_Pattern_steps).binds (ps := P_Pattern_steps) fun _ _ _ _ _ _ us hl => match us, hl with | [_], _ => rfl
    a_Pattern_steps := p_Pattern_steps
    p_Pattern_steps := ⟨a_Pattern_steps, pg_Pattern_steps, pt_Pattern_steps, _, pr_Pattern_steps⟩
    f_Pattern_tail := f_Pattern_tail
    d_Pattern_tail := (PySem.W.fnOf "tail" "Pattern.tail" (defArgs st_Pattern_tail) (defBody st_Pattern_tail) (defScope st_Pattern_tail) .none kV_Pattern_tail dc_Pattern_tail pm_Pattern_tail an_Pattern_tail cd_Pattern_tail ct_Pattern_tail)
    F_Pattern_tail := fun_mk (st := st_Pattern_tail) l_Pattern_tail c_Pattern_tail k_Pattern_tail
    b_Pattern_tail := (fun_mk (st := st_Pattern_tail) l_Pattern_tail c_Pattern_tail k_Pattern_tail).binds (ps := P_Pattern_tail) fun _ _ _ _ _ _ us hl => match us, hl with | [_], _ => rfl
    a_Pattern_tail := p_Pattern_tail
    p_Pattern_tail := ⟨a_Pattern_tail, pg_Pattern_tail, pt_Pattern_tail, _, pr_Pattern_tail⟩
    f_law := fa
    d_law := (PySem.W.fnOf "law" "law" (defArgs st_law) (defBody st_law) (defScope st_law) .none kV_law dc_law pm_law an_law cd_law ct_law)
    F_law := fun_mk (st := st_law) l_law c_law k_law
    b_law := (fun_mk (st := st_law) l_law c_law k_law).binds (ps := P_law) fun _ _ _ _ _ _ us hl => match us, hl with | [_], _ => rfl
    m_law := PySem.W.mg_of X G a_law
    n_all := PySem.W.mg_none_of X G z_all
    n_dict := PySem.W.mg_none_of X G z_dict
    n_enumerate := PySem.W.mg_none_of X G z_enumerate
    n_int := PySem.W.mg_none_of X G z_int
    n_isinstance := PySem.W.mg_none_of X G z_isinstance
    n_len := PySem.W.mg_none_of X G z_len
    n_list := PySem.W.mg_none_of X G z_list
    n_min := PySem.W.mg_none_of X G z_min
    n_range := PySem.W.mg_none_of X G z_range
    n_repr := PySem.W.mg_none_of X G z_repr
    n_str := PySem.W.mg_none_of X G z_str
    n_tuple := PySem.W.mg_none_of X G z_tuple
    n_zip := PySem.W.mg_none_of X G z_zip
    t_LETTERS := t_LETTERS
    g_LETTERS := PySem.W.mg_of X G v_LETTERS
    t_MOST_SIGNS := t_MOST_SIGNS
    g_MOST_SIGNS := PySem.W.mg_of X G v_MOST_SIGNS
    cf_Pattern := ⟨⟨pg_Pattern, hd_Pattern, po_Pattern, sa_Pattern⟩, fun f hf => by
      simp only [TB, FN, List.mem_cons, List.not_mem_nil, or_false] at hf
      rcases hf with rfl | rfl | rfl | rfl
      · exact no_Pattern_given
      · exact no_Pattern_parts
      · exact no_Pattern_end
      · exact no_Pattern_standard, (show (FN 3).Nodup by decide +kernel), (show (FN 3).length < 1000 by decide +kernel)⟩
    k_Pattern := ⟨mk_Pattern, a_Pattern_init, i_Pattern_init, kc_Pattern⟩
    mc_Pattern := .type "type"
    u_Pattern_MOST := .int 400 tv_Pattern_MOST
    r_Pattern := ⟨rd_Pattern, ga_Pattern⟩
    v_Pattern_MOST := ⟨cv_Pattern_MOST, ⟨_, rfl⟩⟩
    x_NoPattern := x_NoPattern
    kx_NoPattern := kx_NoPattern
    bx_NoPattern := bx_NoPattern
    tx_NoPattern := tx_NoPattern
    s_NoPattern := fun j hj => by
      have e : j = 1 := by simpa using hj
      subst e
      exact exm_at bx_NoPattern ix_NoPattern tx_NoPattern sx_NoPattern
  }
  exact ⟨Z.d_law, Z.T, fun s v => .of_eq rfl, fun base _ _ => ok_law Z⟩
end L3
open PySem PySem.W PyProof.Rows
set_option maxRecDepth 100000 in
set_option maxHeartbeats 0 in
theorem PySem.Challenge.cw_thinnedrow_k01_pattern_texts_holds : PySem.Challenge.rw_thinnedrow_k01_pattern_texts.Holds := by
  w_on; o_law; k_head; (case hw => w_witness2)
  k_fill
  refine L3.walk_data (l := PySem.Challenge.rw_thinnedrow_k01_pattern_texts) (n := 63) (k := 8) (x := "_law_script") (g := L3.f_law) rfl (by decide) rfl ⟨⟨rfl, by decide, by decide⟩, rfl⟩ (fun w h Y => PySem.W.kIn_of Y) ?F L3.law_good
  case F =>
    intro w mg fa h KX G hmg
    refine' L3.all_mk KX G hmg ?a_NoPattern ?a_Pattern ?a_L_begun ?l_L_begun ?c_L_begun ?k_L_begun ?a_Pattern_len ?i_Pattern_len ?l_Pattern_len ?c_Pattern_len ?k_Pattern_len ?a_L_mixed ?l_L_mixed ?c_L_mixed ?k_L_mixed ?a_L_take ?l_L_take ?c_L_take ?k_L_take ?a_L_pick ?l_L_pick ?c_L_pick ?k_L_pick ?a_L_word ?l_L_word ?c_L_word ?k_L_word ?a_L_ribbon ?l_L_ribbon ?c_L_ribbon ?k_L_ribbon ?a_L_bent ?l_L_bent ?c_L_bent ?k_L_bent ?a_L_drawn ?l_L_drawn ?c_L_drawn ?k_L_drawn ?a_is_text ?l_is_text ?c_is_text ?k_is_text ?a_steps_of ?l_steps_of ?c_steps_of ?k_steps_of ?a_tail_of ?l_tail_of ?c_tail_of ?k_tail_of ?a_places ?l_places ?c_places ?k_places ?a_gaps ?l_gaps ?c_gaps ?k_gaps ?a_root ?l_root ?c_root ?k_root ?a_is_periodic ?l_is_periodic ?c_is_periodic ?k_is_periodic ?a_period_of ?l_period_of ?c_period_of ?k_period_of ?a_normal_text ?l_normal_text ?c_normal_text ?k_normal_text ?a_Pattern_init ?i_Pattern_init ?l_Pattern_init ?c_Pattern_init ?k_Pattern_init ?a_L_made ?l_L_made ?c_L_made ?k_L_made ?a_L_is_pattern ?l_L_is_pattern ?c_L_is_pattern ?k_L_is_pattern ?a_L_parsed ?l_L_parsed ?c_L_parsed ?k_L_parsed ?a_Pattern_text ?pg_Pattern_text ?pt_Pattern_text ?pr_Pattern_text ?l_Pattern_text ?c_Pattern_text ?k_Pattern_text ?a_Pattern_steps ?pg_Pattern_steps ?pt_Pattern_steps ?pr_Pattern_steps ?l_Pattern_steps ?c_Pattern_steps ?k_Pattern_steps ?a_Pattern_tail ?pg_Pattern_tail ?pt_Pattern_tail ?pr_Pattern_tail ?l_Pattern_tail ?c_Pattern_tail ?k_Pattern_tail ?a_law ?l_law ?c_law ?k_law ?z_all ?z_dict ?z_enumerate ?z_int ?z_isinstance ?z_len ?z_list ?z_min ?z_range ?z_repr ?z_str ?z_tuple ?z_zip ?v_LETTERS ?v_MOST_SIGNS ?pg_Pattern ?hd_Pattern ?po_Pattern ?sa_Pattern ?no_Pattern_given ?no_Pattern_parts ?no_Pattern_end ?no_Pattern_standard ?mk_Pattern ?kc_Pattern ?rd_Pattern ?ga_Pattern ?cv_Pattern_MOST ?x_NoPattern ?kx_NoPattern ?bx_NoPattern ?tx_NoPattern ?ix_NoPattern ?sx_NoPattern
    (case a_NoPattern => k_is)
    (case a_Pattern => k_is)
    (case a_L_begun => k_is)
    (case l_L_begun => k_is)
    (case c_L_begun => k_is)
    (case k_L_begun => k_is)
    (case a_Pattern_len => k_is)
    (case i_Pattern_len => k_is)
    (case l_Pattern_len => k_is)
    (case c_Pattern_len => k_is)
    (case k_Pattern_len => k_is)
    (case a_L_mixed => k_is)
    (case l_L_mixed => k_is)
    (case c_L_mixed => k_is)
    (case k_L_mixed => k_is)
    (case a_L_take => k_is)
    (case l_L_take => k_is)
    (case c_L_take => k_is)
    (case k_L_take => k_is)
    (case a_L_pick => k_is)
    (case l_L_pick => k_is)
    (case c_L_pick => k_is)
    (case k_L_pick => k_is)
    (case a_L_word => k_is)
    (case l_L_word => k_is)
    (case c_L_word => k_is)
    (case k_L_word => k_is)
    (case a_L_ribbon => k_is)
    (case l_L_ribbon => k_is)
    (case c_L_ribbon => k_is)
    (case k_L_ribbon => k_is)
    (case a_L_bent => k_is)
    (case l_L_bent => k_is)
    (case c_L_bent => k_is)
    (case k_L_bent => k_is)
    (case a_L_drawn => k_is)
    (case l_L_drawn => k_is)
    (case c_L_drawn => k_is)
    (case k_L_drawn => k_is)
    (case a_is_text => k_is)
    (case l_is_text => k_is)
    (case c_is_text => k_is)
    (case k_is_text => k_is)
    (case a_steps_of => k_is)
    (case l_steps_of => k_is)
    (case c_steps_of => k_is)
    (case k_steps_of => k_is)
    (case a_tail_of => k_is)
    (case l_tail_of => k_is)
    (case c_tail_of => k_is)
    (case k_tail_of => k_is)
    (case a_places => k_is)
    (case l_places => k_is)
    (case c_places => k_is)
    (case k_places => k_is)
    (case a_gaps => k_is)
    (case l_gaps => k_is)
    (case c_gaps => k_is)
    (case k_gaps => k_is)
    (case a_root => k_is)
    (case l_root => k_is)
    (case c_root => k_is)
    (case k_root => k_is)
    (case a_is_periodic => k_is)
    (case l_is_periodic => k_is)
    (case c_is_periodic => k_is)
    (case k_is_periodic => k_is)
    (case a_period_of => k_is)
    (case l_period_of => k_is)
    (case c_period_of => k_is)
    (case k_period_of => k_is)
    (case a_normal_text => k_is)
    (case l_normal_text => k_is)
    (case c_normal_text => k_is)
    (case k_normal_text => k_is)
    (case a_Pattern_init => k_is)
    (case i_Pattern_init => k_is)
    (case l_Pattern_init => k_is)
    (case c_Pattern_init => k_is)
    (case k_Pattern_init => k_is)
    (case a_L_made => k_is)
    (case l_L_made => k_is)
    (case c_L_made => k_is)
    (case k_L_made => k_is)
    (case a_L_is_pattern => k_is)
    (case l_L_is_pattern => k_is)
    (case c_L_is_pattern => k_is)
    (case k_L_is_pattern => k_is)
    (case a_L_parsed => k_is)
    (case l_L_parsed => k_is)
    (case c_L_parsed => k_is)
    (case k_L_parsed => k_is)
    (case a_Pattern_text => k_is)
    (case pg_Pattern_text => k_is)
    (case pt_Pattern_text => k_is)
    (case pr_Pattern_text => k_is)
    (case l_Pattern_text => k_is)
    (case c_Pattern_text => k_is)
    (case k_Pattern_text => k_is)
    (case a_Pattern_steps => k_is)
    (case pg_Pattern_steps => k_is)
    (case pt_Pattern_steps => k_is)
    (case pr_Pattern_steps => k_is)
    (case l_Pattern_steps => k_is)
    (case c_Pattern_steps => k_is)
    (case k_Pattern_steps => k_is)
    (case a_Pattern_tail => k_is)
    (case pg_Pattern_tail => k_is)
    (case pt_Pattern_tail => k_is)
    (case pr_Pattern_tail => k_is)
    (case l_Pattern_tail => k_is)
    (case c_Pattern_tail => k_is)
    (case k_Pattern_tail => k_is)
    (case a_law => k_is)
    (case l_law => k_is)
    (case c_law => k_is)
    (case k_law => k_is)
    (case z_all => k_is)
    (case z_dict => k_is)
    (case z_enumerate => k_is)
    (case z_int => k_is)
    (case z_isinstance => k_is)
    (case z_len => k_is)
    (case z_list => k_is)
    (case z_min => k_is)
    (case z_range => k_is)
    (case z_repr => k_is)
    (case z_str => k_is)
    (case z_tuple => k_is)
    (case z_zip => k_is)
    (case v_LETTERS => k_is)
    (case v_MOST_SIGNS => k_is)
    (case pg_Pattern => k_is)
    (case hd_Pattern => k_is)
    (case po_Pattern => k_is)
    (case sa_Pattern => k_is)
    (case no_Pattern_given => k_is)
    (case no_Pattern_parts => k_is)
    (case no_Pattern_end => k_is)
    (case no_Pattern_standard => k_is)
    (case mk_Pattern => k_is)
    (case kc_Pattern => k_is)
    (case rd_Pattern => k_is)
    (case ga_Pattern => k_is)
    (case cv_Pattern_MOST => k_is)
    (case x_NoPattern => k_exc)
    (case kx_NoPattern => k_is)
    (case bx_NoPattern => k_is)
    (case tx_NoPattern => k_is)
    (case ix_NoPattern => k_is)
    (case sx_NoPattern => k_is)

