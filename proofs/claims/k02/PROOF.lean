import PyProof.Rows.All
import Wide.All
import OpenK.AllK
import Wide.FinOn
import HandS.ForMost
import HandS.Exc
import HandS.ExcOwn
import HandS.ExcInit
import HandS.ExcField
import HandS.TryOnly
import HandS.TryMany
import HandS.Flow
import HandS.Walk
import HandS.Conv
import HandS.Star
import HandS.OwnEq
import HandS.Deep
import HandS.DeepEq
import HandS.DictTup
import HandS.DictComp
import HandS.Nested
import HandS.NestedK
import HandS.Lambda
import HandS.WordsExc
import HandS.EndBits
import HandS.EndTab
import HandS.Style
import HandS.IsInst
import HandS.Wide
import HandS.WideMore
import HandS.SetKeys
import HandS.SortRule
import HandS.SortKw
import HandS.Codes
import HandS.NoneIn
import HandS.TupAny
import HandS.TupLe
import HandS.ListItems
import HandS.Defaults
import HandS.HeadHook4
import HandS.HeadWalk
import HandS.Head4
import PySem.Challenge.RW_promisewraps_k02_whole_courses
set_option Elab.async false
set_option linter.all false
set_option maxRecDepth 100000
set_option maxHeartbeats 4000000
section
namespace DL
open PySem PySem.Spec PyProof.Rows L2

/-! ### data -/
inductive D where
  | non | bl (b : Bool) | int (i : Int) | str (x : Str)
  | tup (ds : List D) | lst (ds : List D)
  | dic (kvs : List (D × D))
  | dit (kvs : List (D × D))
  | ins (c : Nat) (fs : List (Str × D))
  | scr (ns : List Int)
  | lam (n : Nat) (cells : List (Str × Addr))
  | kt (ds : List D)
  | bad
/-- owned trees -/
inductive T where
  | fz (d : D) | lst (ds : List D) | dic (kvs : List (D × D)) | dit (kvs : List (D × D)) | ins (c : Nat) (fs : List (Str × T))

/-- a lambda of the text -/
structure LamT where
  q : Str
  params : Arguments
  body : Expr
  scope : Scope
/-- the function object at f is the lambda L's, made with the cells cl and the code object c' -/
def LamO (f : Addr) (L : LamT) (cl : List (Str × Addr)) (c' : Addr) : HO := .ext fun h => ∃ pm ctv, h.get? f = some (PySem.W.kla_obj "<lambda>" L.q L.params L.body L.scope cl pm c' ctv)
/-- what the text gives: the written part, the classes by number, the lambdas by number, the tables of code objects -/
structure Tx where
  K : PySem.W.Frag
  ct : Nat → Option Addr
  lm : Nat → LamT

def kD : Key → D
  | .inl i => .int i
  | .inr x => .str x
theorem kD_inj {a b : Key} (h : kD a = kD b) : a = b := by
  cases a <;> cases b <;> simp_all [kD]

mutual
def Den (G : Tx) (F : Hp) : D → V → Prop
  | .non => fun v => v = .non
  | .bl b => fun v => v = .bl b
  | .int i => fun v => v = .int i
  | .str x => fun v => v = .str x
  | .tup ds => fun v => ∃ a vs, v = .ref a ∧ F a = some (.tup vs) ∧ DenL G F ds vs
  | .kt ds => fun v => ∃ a vs, v = .ref a ∧ SqT G.K F a vs ∧ DenL G F ds vs
  | .lst ds => fun v => ∃ a vs, v = .ref a ∧ F a = some (.lst vs) ∧ DenL G F ds vs
  | .dic kvs => fun v => ∃ a ks, v = .ref a ∧ Rd F a (.dK ks) ∧ DenK G F kvs ks
  | .dit kvs => fun v => ∃ a ks, v = .ref a ∧ Rd F a (.dT ks) ∧ DenT G F kvs ks
  | .ins c fs => fun v => ∃ a C dx vs, v = .ref a ∧ G.ct c = some C ∧ F a = some (.ins C dx vs) ∧ DenF G F fs vs
  | .scr ns => fun v => ∃ a, v = .ref a ∧ SqL G.K F a (ns.map V.int)
  | .bad => fun _ => True
  | .lam n cells => fun v => ∃ a c', v = .ref a ∧ F a = some (LamO a (G.lm n) (cloFrom cells (G.lm n).scope.names []) c') ∧ F c' = some (LamX.CodeO c' (G.lm n).q)
def DenL (G : Tx) (F : Hp) : List D → List V → Prop
  | [] => fun vs => vs = []
  | d :: ds => fun vs => ∃ v r, vs = v :: r ∧ Den G F d v ∧ DenL G F ds r
def DenK (G : Tx) (F : Hp) : List (D × D) → List (Key × V) → Prop
  | [] => fun ks => ks = []
  | (k, d) :: r => fun ks => ∃ kk v t, ks = (kk, v) :: t ∧ k = kD kk ∧ Den G F d v ∧ DenK G F r t
def DenT (G : Tx) (F : Hp) : List (D × D) → List (List Key × V) → Prop
  | [] => fun ks => ks = []
  | (k, d) :: r => fun ks => ∃ kk v t, ks = (kk, v) :: t ∧ k = .tup (kk.map kD) ∧ Den G F d v ∧ DenT G F r t
def DenF (G : Tx) (F : Hp) : List (Str × D) → List (Str × V) → Prop
  | [] => fun ks => ks = []
  | (k, d) :: r => fun ks => ∃ v t, ks = (k, v) :: t ∧ Den G F d v ∧ DenF G F r t
end

/-! ### growth -/
def LockK (o : HO) : Prop := (∃ kvs, o = .dK kvs) ∨ ∃ kvs, o = .dT kvs
def Wk (o o' : HO) : Prop := o' = o ∨ (LockK o ∧ ∃ ob, o' = .frz ob o)
def Gr (F F' : Hp) : Prop := ∀ a o, F a = some o → ∃ o', F' a = some o' ∧ Wk o o'
def Sub (F H : Hp) : Prop := ∀ a o, F a = some o → H a = some o
theorem Wk.refl (o : HO) : Wk o o := .inl rfl
theorem not_lock_frz {ob : Obj} {o : HO} : ¬ LockK (.frz ob o) := by
  rintro (⟨_, h⟩ | ⟨_, h⟩) <;> cases h
theorem Wk.trans {o o1 o2 : HO} (h1 : Wk o o1) (h2 : Wk o1 o2) : Wk o o2 := by
  rcases h1 with rfl | ⟨l, ob, rfl⟩
  · exact h2
  · rcases h2 with rfl | ⟨l2, _⟩
    · exact .inr ⟨l, ob, rfl⟩
    · exact absurd l2 not_lock_frz
theorem Wk.eq {o o' : HO} (h : Wk o o') (n : ¬ LockK o) : o' = o := by
  rcases h with h | ⟨l, _⟩
  · exact h
  · exact absurd l n
theorem Gr.refl (F : Hp) : Gr F F := fun _ o h => ⟨o, h, .refl o⟩
theorem Gr.trans {F F1 F2 : Hp} (a : Gr F F1) (b : Gr F1 F2) : Gr F F2 := fun x o h => by
  obtain ⟨o1, h1, w1⟩ := a x o h
  obtain ⟨o2, h2, w2⟩ := b x o1 h1
  exact ⟨o2, h2, w1.trans w2⟩
theorem Gr.of_sub {F F' : Hp} (h : ∀ a o, F a = some o → F' a = some o) : Gr F F' := fun a o e => ⟨o, h a o e, .refl o⟩
theorem Gr.keep {F F' : Hp} (g : Gr F F') {a : Addr} {o : HO} (h : F a = some o) (n : ¬ LockK o) : F' a = some o := by
  obtain ⟨o', h', w⟩ := g a o h
  rw [w.eq n] at h'
  exact h'
theorem Gr.lst {F F' : Hp} (g : Gr F F') {a : Addr} {vs : List V} (h : F a = some (.lst vs)) : F' a = some (.lst vs) := g.keep h (by rintro (⟨_, h⟩ | ⟨_, h⟩) <;> cases h)
theorem Gr.tup {F F' : Hp} (g : Gr F F') {a : Addr} {vs : List V} (h : F a = some (.tup vs)) : F' a = some (.tup vs) := g.keep h (by rintro (⟨_, h⟩ | ⟨_, h⟩) <;> cases h)
theorem Gr.frz {F F' : Hp} (g : Gr F F') {a : Addr} {ob : Obj} {u : HO} (h : F a = some (.frz ob u)) : F' a = some (.frz ob u) := g.keep h not_lock_frz
theorem Gr.insO {F F' : Hp} (g : Gr F F') {a C dx : Addr} {vs : List (Str × V)} (h : F a = some (.ins C dx vs)) : F' a = some (.ins C dx vs) := g.keep h (by rintro (⟨_, h⟩ | ⟨_, h⟩) <;> cases h)
theorem Gr.rd {F F' : Hp} (g : Gr F F') {a : Addr} {u : HO} (h : Rd F a u) : Rd F' a u := by
  rcases h with h | ⟨o, h⟩
  · obtain ⟨o', h', w⟩ := g a u h
    rcases w with rfl | ⟨_, ob, rfl⟩
    · exact .inl h'
    · exact .inr ⟨ob, h'⟩
  · exact .inr ⟨o, g.frz h⟩
theorem Gr.sqT {F F' : Hp} (g : Gr F F') {K : PySem.W.Frag} {a : Addr} {vs : List V} (h : SqT K F a vs) : SqT K F' a vs := by
  rcases h with h | h
  · exact .inl (g.rd h)
  · exact .inr h
theorem Gr.sqL {F F' : Hp} (g : Gr F F') {K : PySem.W.Frag} {a : Addr} {vs : List V} (h : SqL K F a vs) : SqL K F' a vs := by
  rcases h with h | h
  · exact .inl (g.rd h)
  · exact .inr h

section
variable {G : Tx} {F F' : Hp}
mutual
theorem Den.gr (g : Gr F F') : ∀ {d : D} {v : V}, Den G F d v → Den G F' d v
  | .non, _, h => h
  | .bl _, _, h => h
  | .int _, _, h => h
  | .str _, _, h => h
  | .bad, _, h => by simp only [Den]
  | .kt ds, v, h => by
    simp only [Den] at h ⊢
    obtain ⟨a, vs, e, s, l⟩ := h
    exact ⟨a, vs, e, g.sqT s, DenL.gr g l⟩
  | .tup ds, v, h => by
    simp only [Den] at h ⊢
    obtain ⟨a, vs, e, s, l⟩ := h
    exact ⟨a, vs, e, g.tup s, DenL.gr g l⟩
  | .lst ds, v, h => by
    simp only [Den] at h ⊢
    obtain ⟨a, vs, e, s, l⟩ := h
    exact ⟨a, vs, e, g.lst s, DenL.gr g l⟩
  | .dic kvs, v, h => by
    simp only [Den] at h ⊢
    obtain ⟨a, ks, e, s, l⟩ := h
    exact ⟨a, ks, e, g.rd s, DenK.gr g l⟩
  | .dit kvs, v, h => by
    simp only [Den] at h ⊢
    obtain ⟨a, ks, e, s, l⟩ := h
    exact ⟨a, ks, e, g.rd s, DenT.gr g l⟩
  | .ins c fs, v, h => by
    simp only [Den] at h ⊢
    obtain ⟨a, C, dx, vs, e, c1, s, l⟩ := h
    exact ⟨a, C, dx, vs, e, c1, g.insO s, DenF.gr g l⟩
  | .scr ns, v, h => by
    simp only [Den] at h ⊢
    obtain ⟨a, e, s⟩ := h
    exact ⟨a, e, g.sqL s⟩
  | .lam n cells, v, h => by
    simp only [Den] at h ⊢
    obtain ⟨a, c', e, s, z⟩ := h
    exact ⟨a, c', e, g.keep s (by rintro (⟨_, h⟩ | ⟨_, h⟩) <;> cases h), g.keep z (by rintro (⟨_, h⟩ | ⟨_, h⟩) <;> cases h)⟩
theorem DenL.gr (g : Gr F F') : ∀ {ds : List D} {vs : List V}, DenL G F ds vs → DenL G F' ds vs
  | [], _, h => h
  | d :: ds, vs, h => by
    simp only [DenL] at h ⊢
    obtain ⟨v, r, e, h1, h2⟩ := h
    exact ⟨v, r, e, Den.gr g h1, DenL.gr g h2⟩
theorem DenK.gr (g : Gr F F') : ∀ {ds : List (D × D)} {vs : List (Key × V)}, DenK G F ds vs → DenK G F' ds vs
  | [], _, h => h
  | (k, d) :: ds, vs, h => by
    simp only [DenK] at h ⊢
    obtain ⟨kk, v, r, e, ek, h1, h2⟩ := h
    exact ⟨kk, v, r, e, ek, Den.gr g h1, DenK.gr g h2⟩
theorem DenT.gr (g : Gr F F') : ∀ {ds : List (D × D)} {vs : List (List Key × V)}, DenT G F ds vs → DenT G F' ds vs
  | [], _, h => h
  | (k, d) :: ds, vs, h => by
    simp only [DenT] at h ⊢
    obtain ⟨kk, v, r, e, ek, h1, h2⟩ := h
    exact ⟨kk, v, r, e, ek, Den.gr g h1, DenT.gr g h2⟩
theorem DenF.gr (g : Gr F F') : ∀ {ds : List (Str × D)} {vs : List (Str × V)}, DenF G F ds vs → DenF G F' ds vs
  | [], _, h => h
  | (k, d) :: ds, vs, h => by
    simp only [DenF] at h ⊢
    obtain ⟨v, r, e, h1, h2⟩ := h
    exact ⟨v, r, e, Den.gr g h1, DenF.gr g h2⟩
end
end

/-! ### owned trees -/
mutual
def Own (G : Tx) (F H : Hp) : T → V → List Addr → Prop
  | .fz d => fun v A => A = [] ∧ Den G F d v
  | .lst ds => fun v A => ∃ a vs, v = .ref a ∧ A = [a] ∧ F a = none ∧ H a = some (.lst vs) ∧ DenL G F ds vs
  | .dic kvs => fun v A => ∃ a ks, v = .ref a ∧ A = [a] ∧ F a = none ∧ H a = some (.dK ks) ∧ DenK G F kvs ks
  | .dit kvs => fun v A => ∃ a ks, v = .ref a ∧ A = [a] ∧ F a = none ∧ H a = some (.dT ks) ∧ DenT G F kvs ks
  | .ins c fs => fun v A => ∃ a C dx vs B, v = .ref a ∧ A = a :: B ∧ G.ct c = some C ∧ F a = none ∧ H a = some (.ins C dx vs) ∧ OwnF G F H fs vs B
def OwnF (G : Tx) (F H : Hp) : List (Str × T) → List (Str × V) → List Addr → Prop
  | [] => fun vs A => vs = [] ∧ A = []
  | (n, t) :: r => fun vs A => ∃ v q A1 A2, vs = (n, v) :: q ∧ A = A1 ++ A2 ∧ Own G F H t v A1 ∧ OwnF G F H r q A2
end
/-- the table at P: what it tells are code objects of the name q -/
def TabF (F H : Hp) (P : Addr) (q : Str) : Prop := F P = none ∧ ∃ ps : Array Value, H P = some (.tbl ps) ∧ TriplesOk ps.toList ∧ ∀ (pos : Pos) (cv : Value), codeAmong pos ps.toList = some cv → ∃ c, cv = .ref c ∧ F c = some (LamX.CodeO c q)
theorem TabF.to {F H F' H' : Hp} {P : Addr} {q : Str} (t : TabF F H P q) (g : Gr F F') (h : ∀ ps, F P = none → H P = some (.tbl ps) → F' P = none ∧ H' P = some (.tbl ps)) : TabF F' H' P q := by
  obtain ⟨f, ps, e, ht, k⟩ := t
  obtain ⟨f', e'⟩ := h ps f e
  refine ⟨f', ps, e', ht, fun pos cv hc => ?_⟩
  obtain ⟨c, e1, e2⟩ := k pos cv hc
  exact ⟨c, e1, g.keep e2 (by rintro (⟨_, h⟩ | ⟨_, h⟩) <;> cases h)⟩
/-- the tables of code objects that are told of, each with its codes' name -/
class TB where
  tb : List (Addr × Str)
variable [TB]
def TbOk (_ : Tx) (F H : Hp) : Prop := ∀ p ∈ TB.tb, TabF F H p.1 p.2
/-- from one pair (frozen, whole) to another: B may be touched -/
structure Step (B : List Addr) (F H F' H' : Hp) : Prop where
  gr : Gr F F'
  new : ∀ b o, F' b = some o → (∃ o0, F b = some o0) ∨ b ∈ B ∨ H b = none ∨ ∃ xs, H b = some (.tup xs)
  keep : ∀ b o, H b = some o → b ∉ B → H' b = some o ∨ ((∃ o0, F b = some o0) ∧ ∃ o', H' b = some o' ∧ Wk o o') ∨ ∃ ps ps', o = .tbl ps ∧ H' b = some (.tbl ps')
  tab : ∀ p ∈ TB.tb, TabF F H p.1 p.2 → TabF F' H' p.1 p.2
theorem Step.refl {B : List Addr} {F H : Hp} : Step B F H F H := ⟨.refl F, fun b o h => .inl ⟨o, h⟩, fun b o h _ => .inl h, fun _ _ t => t⟩
theorem Step.back {B : List Addr} {F H F' H' : Hp} (s : Step B F H F' H') {b : Addr} (h : H' b = none) : b ∈ B ∨ H b = none := by
  cases e : H b with
  | none => exact .inr rfl
  | some o =>
    by_cases hb : b ∈ B
    · exact .inl hb
    · rcases s.keep b o e hb with q | ⟨_, o', q, _⟩ | ⟨_, _, _, q⟩ <;> rw [h] at q <;> cases q
theorem Wk.tup {o : HO} {xs : List V} (h : Wk o (.tup xs)) : o = .tup xs := by
  rcases h with h | ⟨_, ob, h⟩
  · exact h.symm
  · cases h
theorem Step.trans {B B1 : List Addr} {F H F1 H1 F2 H2 : Hp} (s : Step B F H F1 H1) (t : Step B1 F1 H1 F2 H2) (hB : ∀ b ∈ B1, b ∈ B ∨ H b = none) : Step B F H F2 H2 := by
  refine ⟨s.gr.trans t.gr, fun b o h => ?_, fun b o h hb => ?_, fun P q z => t.tab P q (s.tab P q z)⟩
  · rcases t.new b o h with ⟨o1, h1⟩ | h1 | h1 | ⟨xs, h1⟩
    · exact s.new b o1 h1
    · rcases hB b h1 with z | z
      · exact .inr (.inl z)
      · exact .inr (.inr (.inl z))
    · rcases s.back h1 with z | z
      · exact .inr (.inl z)
      · exact .inr (.inr (.inl z))
    · by_cases hb : b ∈ B
      · exact .inr (.inl hb)
      · cases e : H b with
        | none => exact .inr (.inr (.inl rfl))
        | some o0 =>
          rcases s.keep b o0 e hb with z | ⟨_, o', z, w⟩ | ⟨_, _, _, z⟩
          · rw [z] at h1; cases h1; exact .inr (.inr (.inr ⟨xs, rfl⟩))
          · rw [z] at h1; cases h1
            have := w.tup; subst this
            exact .inr (.inr (.inr ⟨xs, rfl⟩))
          · rw [z] at h1; cases h1
  · have nb : b ∉ B1 := fun z => by
      rcases hB b z with z | z
      · exact hb z
      · rw [h] at z; cases z
    have fix : ∀ o0, F1 b = some o0 → (∃ o0, F b = some o0) ∨ ∃ xs, o = .tup xs := fun o0 e => by
      rcases s.new b o0 e with z | z | z | ⟨xs, z⟩
      · exact .inl z
      · exact absurd z hb
      · rw [h] at z; cases z
      · rw [h] at z; cases z; exact .inr ⟨xs, rfl⟩
    rcases s.keep b o h hb with q | ⟨f, o1, q, w⟩ | ⟨ps, ps', rfl, q⟩
    · rcases t.keep b o q nb with r | ⟨⟨o0, e⟩, o2, r, w2⟩ | r
      · exact .inl r
      · rcases fix o0 e with z | ⟨xs, rfl⟩
        · exact .inr (.inl ⟨z, o2, r, w2⟩)
        · rw [w2.eq (by rintro (⟨_, h⟩ | ⟨_, h⟩) <;> cases h)] at r
          exact .inl r
      · exact .inr (.inr r)
    · rcases t.keep b o1 q nb with r | ⟨_, o2, r, w2⟩ | ⟨ps, ps', rfl, r⟩
      · exact .inr (.inl ⟨f, o1, r, w⟩)
      · exact .inr (.inl ⟨f, o2, r, w.trans w2⟩)
      · rcases w with w | ⟨_, ob, w⟩
        · exact .inr (.inr ⟨ps, ps', w.symm, r⟩)
        · cases w
    · rcases t.keep b _ q nb with r | ⟨_, o2, r, w2⟩ | ⟨ps1, ps2, _, r⟩
      · exact .inr (.inr ⟨ps, ps', rfl, r⟩)
      · rw [w2.eq (by rintro (⟨_, h⟩ | ⟨_, h⟩) <;> cases h)] at r
        exact .inr (.inr ⟨ps, ps', rfl, r⟩)
      · exact .inr (.inr ⟨ps, ps2, rfl, r⟩)
theorem Step.mono {B B' : List Addr} {F H F' H' : Hp} (s : Step B F H F' H') (h : ∀ b ∈ B, b ∈ B') : Step B' F H F' H' :=
  ⟨s.gr, fun b o e => by
    rcases s.new b o e with z | z | z
    · exact .inl z
    · exact .inr (.inl (h b z))
    · exact .inr (.inr z), fun b o e hb => s.keep b o e fun z => hb (h b z), s.tab⟩
/-- an object that is not frozen, outside B: kept; and it stays unfrozen -/
theorem Step.own {B : List Addr} {F H F' H' : Hp} (s : Step B F H F' H') {a : Addr} {o : HO} (f : F a = none) (h : H a = some o) (hb : a ∉ B) (nt : ∀ xs, o ≠ .tup xs := by intro _ z; cases z) (nb : ∀ ps, o ≠ .tbl ps := by intro _ z; cases z) : F' a = none ∧ H' a = some o := by
  constructor
  · cases e : F' a with
    | none => rfl
    | some u =>
      rcases s.new a u e with ⟨_, z⟩ | z | z | ⟨xs, z⟩
      · rw [f] at z; cases z
      · exact absurd z hb
      · rw [h] at z; cases z
      · rw [h] at z; cases z; exact absurd rfl (nt xs)
  · rcases s.keep a o h hb with z | ⟨⟨_, z⟩, _⟩ | ⟨ps, _, z, _⟩
    · exact z
    · rw [f] at z; cases z
    · exact absurd z (nb ps)
section
variable {G : Tx} {F H F' H' : Hp} {B : List Addr}
mutual
theorem Own.step (s : Step B F H F' H') : ∀ {t : T} {v : V} {A : List Addr}, Own G F H t v A → (∀ a ∈ A, a ∉ B) → Own G F' H' t v A
  | .fz d, v, A, h, _ => by
    simp only [Own] at h ⊢
    exact ⟨h.1, h.2.gr s.gr⟩
  | .lst ds, v, A, h, hd => by
    simp only [Own] at h ⊢
    obtain ⟨a, vs, e, rfl, f, h1, l⟩ := h
    obtain ⟨f', h'⟩ := s.own f h1 (hd a (by simp))
    exact ⟨a, vs, e, rfl, f', h', l.gr s.gr⟩
  | .dic kvs, v, A, h, hd => by
    simp only [Own] at h ⊢
    obtain ⟨a, ks, e, rfl, f, h1, l⟩ := h
    obtain ⟨f', h'⟩ := s.own f h1 (hd a (by simp))
    exact ⟨a, ks, e, rfl, f', h', l.gr s.gr⟩
  | .dit kvs, v, A, h, hd => by
    simp only [Own] at h ⊢
    obtain ⟨a, ks, e, rfl, f, h1, l⟩ := h
    obtain ⟨f', h'⟩ := s.own f h1 (hd a (by simp))
    exact ⟨a, ks, e, rfl, f', h', l.gr s.gr⟩
  | .ins c fs, v, A, h, hd => by
    simp only [Own] at h ⊢
    obtain ⟨a, C, dx, vs, Bs, e, rfl, hc, f, h1, l⟩ := h
    obtain ⟨f', h'⟩ := s.own f h1 (hd a (by simp))
    exact ⟨a, C, dx, vs, Bs, e, rfl, hc, f', h', OwnF.step s l fun b hb => hd b (by simp [hb])⟩
theorem OwnF.step (s : Step B F H F' H') : ∀ {fs : List (Str × T)} {vs : List (Str × V)} {A : List Addr}, OwnF G F H fs vs A → (∀ a ∈ A, a ∉ B) → OwnF G F' H' fs vs A
  | [], vs, A, h, _ => by
    simp only [OwnF] at h ⊢
    exact h
  | (n, t) :: r, vs, A, h, hd => by
    simp only [OwnF] at h ⊢
    obtain ⟨v, q, A1, A2, e, rfl, h1, h2⟩ := h
    exact ⟨v, q, A1, A2, e, rfl, Own.step s h1 fun b hb => hd b (by simp [hb]), OwnF.step s h2 fun b hb => hd b (by simp [hb])⟩
end
mutual
theorem Own.mem : ∀ {t : T} {v : V} {A : List Addr}, Own G F H t v A → ∀ a ∈ A, F a = none ∧ ∃ o, H a = some o
  | .fz d, v, A, h, a, ha => by
    simp only [Own] at h
    rw [h.1] at ha; cases ha
  | .lst ds, v, A, h, a, ha => by
    simp only [Own] at h
    obtain ⟨a', vs, e, rfl, f, h1, l⟩ := h
    rw [List.mem_singleton] at ha; subst ha
    exact ⟨f, _, h1⟩
  | .dic kvs, v, A, h, a, ha => by
    simp only [Own] at h
    obtain ⟨a', ks, e, rfl, f, h1, l⟩ := h
    rw [List.mem_singleton] at ha; subst ha
    exact ⟨f, _, h1⟩
  | .dit kvs, v, A, h, a, ha => by
    simp only [Own] at h
    obtain ⟨a', ks, e, rfl, f, h1, l⟩ := h
    rw [List.mem_singleton] at ha; subst ha
    exact ⟨f, _, h1⟩
  | .ins c fs, v, A, h, a, ha => by
    simp only [Own] at h
    obtain ⟨a', C, dx, vs, Bs, e, rfl, hc, f, h1, l⟩ := h
    rcases List.mem_cons.mp ha with rfl | ha
    · exact ⟨f, _, h1⟩
    · exact OwnF.mem l a ha
theorem OwnF.mem : ∀ {fs : List (Str × T)} {vs : List (Str × V)} {A : List Addr}, OwnF G F H fs vs A → ∀ a ∈ A, F a = none ∧ ∃ o, H a = some o
  | [], vs, A, h, a, ha => by
    simp only [OwnF] at h
    rw [h.2] at ha; cases ha
  | (n, t) :: r, vs, A, h, a, ha => by
    simp only [OwnF] at h
    obtain ⟨v, q, A1, A2, e, rfl, h1, h2⟩ := h
    rcases List.mem_append.mp ha with ha | ha
    · exact Own.mem h1 a ha
    · exact OwnF.mem h2 a ha
end
mutual
theorem Own.notb : ∀ {t : T} {v : V} {A : List Addr}, Own G F H t v A → ∀ a ∈ A, ∀ ps, H a ≠ some (.tbl ps)
  | .fz d, v, A, h, a, ha, ps, z => by
    simp only [Own] at h
    rw [h.1] at ha; cases ha
  | .lst ds, v, A, h, a, ha, ps, z => by
    simp only [Own] at h
    obtain ⟨a', vs, e, rfl, f, h1, l⟩ := h
    rw [List.mem_singleton] at ha; subst ha
    rw [h1] at z; cases z
  | .dic kvs, v, A, h, a, ha, ps, z => by
    simp only [Own] at h
    obtain ⟨a', ks, e, rfl, f, h1, l⟩ := h
    rw [List.mem_singleton] at ha; subst ha
    rw [h1] at z; cases z
  | .dit kvs, v, A, h, a, ha, ps, z => by
    simp only [Own] at h
    obtain ⟨a', ks, e, rfl, f, h1, l⟩ := h
    rw [List.mem_singleton] at ha; subst ha
    rw [h1] at z; cases z
  | .ins c fs, v, A, h, a, ha, ps, z => by
    simp only [Own] at h
    obtain ⟨a', C, dx, vs, Bs, e, rfl, hc, f, h1, l⟩ := h
    rcases List.mem_cons.mp ha with rfl | ha
    · rw [h1] at z; cases z
    · exact OwnF.notb l a ha ps z
theorem OwnF.notb : ∀ {fs : List (Str × T)} {vs : List (Str × V)} {A : List Addr}, OwnF G F H fs vs A → ∀ a ∈ A, ∀ ps, H a ≠ some (.tbl ps)
  | [], vs, A, h, a, ha, ps, z => by
    simp only [OwnF] at h
    rw [h.2] at ha; cases ha
  | (n, t) :: r, vs, A, h, a, ha, ps, z => by
    simp only [OwnF] at h
    obtain ⟨v, q, A1, A2, e, rfl, h1, h2⟩ := h
    rcases List.mem_append.mp ha with ha | ha
    · exact Own.notb h1 a ha ps z
    · exact OwnF.notb h2 a ha ps z
end
end
end DL

end
section
namespace DL
open PySem PySem.Spec PyProof.Rows L2
variable [TB]

/-! ### freezing -/
mutual
def er : T → D
  | .fz d => d
  | .lst ds => .lst ds
  | .dic kvs => .dic kvs
  | .dit kvs => .dit kvs
  | .ins c fs => .ins c (erF fs)
def erF : List (Str × T) → List (Str × D)
  | [] => []
  | (n, t) :: r => (n, er t) :: erF r
end
section
variable {G : Tx} {F H F' : Hp}
mutual
theorem Own.den (g : Gr F F') : ∀ {t : T} {v : V} {A : List Addr}, Own G F H t v A → (∀ a ∈ A, F' a = H a) → Den G F' (er t) v
  | .fz d, v, A, h, _ => by
    simp only [Own] at h
    simp only [er]
    exact h.2.gr g
  | .lst ds, v, A, h, k => by
    simp only [Own] at h
    obtain ⟨a, vs, e, rfl, f, h1, l⟩ := h
    simp only [er, Den]
    exact ⟨a, vs, e, by rw [k a (by simp), h1], l.gr g⟩
  | .dic kvs, v, A, h, k => by
    simp only [Own] at h
    obtain ⟨a, ks, e, rfl, f, h1, l⟩ := h
    simp only [er, Den]
    exact ⟨a, ks, e, .inl (by rw [k a (by simp), h1]), l.gr g⟩
  | .dit kvs, v, A, h, k => by
    simp only [Own] at h
    obtain ⟨a, ks, e, rfl, f, h1, l⟩ := h
    simp only [er, Den]
    exact ⟨a, ks, e, .inl (by rw [k a (by simp), h1]), l.gr g⟩
  | .ins c fs, v, A, h, k => by
    simp only [Own] at h
    obtain ⟨a, C, dx, vs, Bs, e, rfl, hc, f, h1, l⟩ := h
    simp only [er, Den]
    exact ⟨a, C, dx, vs, e, hc, by rw [k a (by simp), h1], OwnF.den g l fun b hb => k b (by simp [hb])⟩
theorem OwnF.den (g : Gr F F') : ∀ {fs : List (Str × T)} {vs : List (Str × V)} {A : List Addr}, OwnF G F H fs vs A → (∀ a ∈ A, F' a = H a) → DenF G F' (erF fs) vs
  | [], vs, A, h, _ => by
    simp only [OwnF] at h
    simp only [erF, DenF]
    exact h.1
  | (n, t) :: r, vs, A, h, k => by
    simp only [OwnF] at h
    obtain ⟨v, q, A1, A2, e, rfl, h1, h2⟩ := h
    simp only [erF, DenF]
    exact ⟨v, _, e, Own.den g h1 fun b hb => k b (by simp [hb]), OwnF.den g h2 fun b hb => k b (by simp [hb])⟩
end
end
/-- F with the objects of A as they stand in H -/
def froz (F H : Hp) (A : List Addr) : Hp := fun a => if a ∈ A then H a else F a
theorem froz_in {F H : Hp} {A : List Addr} {a : Addr} (h : a ∈ A) : froz F H A a = H a := if_pos h
theorem froz_out {F H : Hp} {A : List Addr} {a : Addr} (h : a ∉ A) : froz F H A a = F a := if_neg h
theorem froz_sub {F H : Hp} {A : List Addr} (s : Sub F H) : Sub (froz F H A) H := fun a o e => by
  unfold froz at e
  split at e
  · exact e
  · exact s a o e
theorem froz_gr {F H : Hp} {A : List Addr} (f : ∀ a ∈ A, F a = none) : Gr F (froz F H A) := Gr.of_sub fun a o e => by
  have : a ∉ A := fun z => by rw [f a z] at e; cases e
  rw [froz_out this]; exact e
theorem froz_step {F H : Hp} {A : List Addr} (f : ∀ a ∈ A, F a = none) (nt : ∀ a ∈ A, ∀ ps, H a ≠ some (.tbl ps)) : Step A F H (froz F H A) H :=
  ⟨froz_gr f, fun b o e => by
    by_cases h : b ∈ A
    · exact .inr (.inl h)
    · rw [froz_out h] at e; exact .inl ⟨o, e⟩, fun b o e _ => .inl e, fun P q t => t.to (froz_gr f) fun ps e1 e2 => ⟨by rw [froz_out fun z => nt _ z ps e2]; exact e1, e2⟩⟩

/-! ### the state of a frame -/
/-- what a slot holds: one's own, or lent (it stands as at the entry) -/
inductive Ent where
  | own (t : T) | bor (t : T)
abbrev Env := List (Option Ent)
/-- the entry of a def: what was frozen and whole there, what it was handed to change, the slots that stay -/
structure DCtx where
  F0 : Hp
  H0 : Hp
  A0 : List Addr
  pv : List (Nat × V)
  bo : Nat → Option (V × T)
def DCtx.mine (C : DCtx) (A : List Addr) : Prop := ∀ a ∈ A, a ∈ C.A0 ∨ C.H0 a = none
structure RepF (G : Tx) (C : DCtx) (F H : Hp) (σ : L2.St) (env : Env) (fp : Nat → List Addr) : Prop where
  st : Step C.A0 C.F0 C.H0 F H
  sub : Sub F H
  len : σ.length = env.length
  own : ∀ (i : Nat) (t : T), env[i]? = some (some (Ent.own t)) → ∃ v, σ[i]? = some (some v) ∧ Own G F H t v (fp i)
  bok : ∀ (i : Nat) (v : V) (t : T), C.bo i = some (v, t) → ∃ B, Own G C.F0 C.H0 t v B ∧ ∀ b ∈ B, b ∉ C.A0
  bor : ∀ (i : Nat) (t : T), env[i]? = some (some (Ent.bor t)) → ∃ v, σ[i]? = some (some v) ∧ C.bo i = some (v, t)
  nd : ∀ (i : Nat) (t : T), env[i]? = some (some (Ent.own t)) → (fp i).Nodup ∧ C.mine (fp i)
  dj : ∀ (i j : Nat) (ti tj : T), i ≠ j → env[i]? = some (some (Ent.own ti)) → env[j]? = some (some (Ent.own tj)) → ∀ a ∈ fp i, a ∉ fp j
  pin : ∀ (i : Nat) (v : V), (i, v) ∈ C.pv → σ[i]? = some (some v)
  tb : TbOk G F H
def Rep (G : Tx) (C : DCtx) (F H : Hp) (σ : L2.St) (env : Env) : Prop := ∃ fp, RepF G C F H σ env fp
/-- .. and a value of one's own beside it -/
def RepV (G : Tx) (C : DCtx) (F H : Hp) (σ : L2.St) (env : Env) (t : T) (v : V) : Prop :=
  ∃ fp A, RepF G C F H σ env fp ∧ Own G F H t v A ∧ A.Nodup ∧ C.mine A ∧ ∀ (i : Nat) (ti : T), env[i]? = some (some (Ent.own ti)) → ∀ a ∈ fp i, a ∉ A

theorem set_none {env : Env} {i j : Nat} {x : Ent} (e : (env.set i none)[j]? = some (some x)) : j ≠ i ∧ env[j]? = some (some x) := by
  by_cases q : j = i
  · subst q
    have hl : j < env.length := by
      have := (List.getElem?_eq_some_iff.mp e).1
      simpa using this
    rw [List.getElem?_set_self hl] at e
    cases e
  · rw [List.getElem?_set_ne (Ne.symm q)] at e
    exact ⟨q, e⟩
theorem set_some {env : Env} {i j : Nat} {x y : Ent} (e : (env.set i (some y))[j]? = some (some x)) : (j = i ∧ x = y ∧ i < env.length) ∨ (j ≠ i ∧ env[j]? = some (some x)) := by
  by_cases q : j = i
  · subst q
    have hl : j < env.length := by
      have := (List.getElem?_eq_some_iff.mp e).1
      simpa using this
    rw [List.getElem?_set_self hl] at e
    cases e
    exact .inl ⟨rfl, rfl, hl⟩
  · rw [List.getElem?_set_ne (Ne.symm q)] at e
    exact .inr ⟨q, e⟩
section
variable {G : Tx} {C : DCtx} {F H F' H' : Hp} {σ : L2.St} {env : Env} {fp : Nat → List Addr} {t : T} {v : V} {d : D} {i : Nat} {B : List Addr}
theorem RepF.step (r : RepF G C F H σ env fp) (s : Step B F H F' H') (sub : Sub F' H') (hB : ∀ (i : Nat) (t : T), env[i]? = some (some (Ent.own t)) → ∀ a ∈ fp i, a ∉ B) (mB : C.mine B) : RepF G C F' H' σ env fp where
  st := r.st.trans s mB
  sub := sub
  len := r.len
  own := fun i t e => by
    obtain ⟨v, h1, h2⟩ := r.own i t e
    exact ⟨v, h1, h2.step s (hB i t e)⟩
  bok := r.bok
  bor := r.bor
  nd := r.nd
  dj := r.dj
  pin := r.pin
  tb := fun p hp => s.tab p hp (r.tb p hp)
theorem Rep.step0 (r : Rep G C F H σ env) (s : Step [] F H F' H') (sub : Sub F' H') : Rep G C F' H' σ env := by
  obtain ⟨fp, r⟩ := r
  exact ⟨fp, r.step s sub (fun _ _ _ _ _ z => nomatch z) (fun _ z => nomatch z)⟩
theorem Rep.sub (r : Rep G C F H σ env) : Sub F H := by obtain ⟨fp, r⟩ := r; exact r.sub
theorem Rep.tb (r : Rep G C F H σ env) : TbOk G F H := by obtain ⟨fp, r⟩ := r; exact r.tb
theorem Rep.lent (r : Rep G C F H σ env) (e : env[i]? = some (some (Ent.bor t))) : ∃ v B, σ[i]? = some (some v) ∧ Own G F H t v B := by
  obtain ⟨fp, r⟩ := r
  obtain ⟨v, h1, h2⟩ := r.bor i t e
  obtain ⟨B, h3, h4⟩ := r.bok i v t h2
  exact ⟨v, B, h1, h3.step r.st h4⟩
/-- what a slot holds, either way -/
theorem Rep.at_ (r : Rep G C F H σ env) (e : env[i]? = some (some (Ent.own t)) ∨ env[i]? = some (some (Ent.bor t))) : ∃ v B, σ[i]? = some (some v) ∧ Own G F H t v B := by
  rcases e with e | e
  · obtain ⟨fp, r⟩ := r
    obtain ⟨v, h1, h2⟩ := r.own i t e
    exact ⟨v, fp i, h1, h2⟩
  · exact r.lent e
theorem Rep.fz (r : Rep G C F H σ env) (h : Den G F d v) : RepV G C F H σ env (.fz d) v := by
  obtain ⟨fp, r⟩ := r
  exact ⟨fp, [], r, by simp only [Own]; exact ⟨trivial, h⟩, List.nodup_nil, (fun _ z => nomatch z), fun _ _ _ _ _ z => nomatch z⟩
theorem RepV.rep (r : RepV G C F H σ env t v) : Rep G C F H σ env := by obtain ⟨fp, A, r, _⟩ := r; exact ⟨fp, r⟩
theorem RepV.froze (r : RepV G C F H σ env t v) : ∃ F', Gr F F' ∧ Rep G C F' H σ env ∧ Den G F' (er t) v := by
  obtain ⟨fp, A, r, o, nd, mi, dj⟩ := r
  have f : ∀ a ∈ A, F a = none := fun a ha => (o.mem a ha).1
  refine ⟨froz F H A, froz_gr f, ⟨fp, r.step (froz_step f fun a ha => o.notb a ha) (froz_sub r.sub) dj mi⟩, o.den (froz_gr f) fun a ha => froz_in ha⟩
/-- a slot is stored -/
theorem RepV.set (r : RepV G C F H σ env t v) (hp : ∀ w, (i, w) ∉ C.pv) : Rep G C F H (σ.set i (some v)) (env.set i (some (Ent.own t))) := by
  obtain ⟨fp, A, r, o, nd, mi, dj⟩ := r
  refine ⟨fun j => if j = i then A else fp j, r.st, r.sub, by simp [r.len], fun j tj e => ?_, r.bok, fun j tj e => ?_, fun j tj e => ?_, fun j k tj tk ne ej ek a ha => ?_, fun j w h => ?_, r.tb⟩
  · rcases set_some e with ⟨rfl, q, hl⟩ | ⟨q, e⟩
    · cases q
      rw [if_pos rfl]
      exact ⟨v, by rw [List.getElem?_set_self (by rw [r.len]; exact hl)], o⟩
    · rw [List.getElem?_set_ne (Ne.symm q), if_neg q]
      exact r.own j tj e
  · rcases set_some e with ⟨rfl, q, hl⟩ | ⟨q, e⟩
    · cases q
    · rw [List.getElem?_set_ne (Ne.symm q)]
      exact r.bor j tj e
  · rcases set_some e with ⟨rfl, q, hl⟩ | ⟨q, e⟩
    · rw [if_pos rfl]; exact ⟨nd, mi⟩
    · rw [if_neg q]
      exact r.nd j tj e
  · rcases set_some ej with ⟨rfl, q, hl⟩ | ⟨q, ej2⟩
    · rw [if_pos rfl] at ha
      rcases set_some ek with ⟨rfl, _, _⟩ | ⟨qk, ek2⟩
      · exact absurd rfl ne
      · rw [if_neg qk]
        exact fun z => dj k tk ek2 a z ha
    · rw [if_neg q] at ha
      rcases set_some ek with ⟨rfl, _, _⟩ | ⟨qk, ek2⟩
      · rw [if_pos rfl]; exact dj j tj ej2 a ha
      · rw [if_neg qk]
        exact r.dj j k tj tk ne ej2 ek2 a ha
  · have : j ≠ i := fun z => by subst z; exact hp w h
    rw [List.getElem?_set_ne (Ne.symm this)]
    exact r.pin j w h
/-- a slot is let go -/
theorem Rep.drop (r : Rep G C F H σ env) (i : Nat) : Rep G C F H σ (env.set i none) := by
  obtain ⟨fp, r⟩ := r
  exact ⟨fp, r.st, r.sub, by simp [r.len], fun j tj e => r.own j tj (set_none e).2, r.bok, fun j tj e => r.bor j tj (set_none e).2, fun j tj e => r.nd j tj (set_none e).2, fun j k tj tk ne ej ek => r.dj j k tj tk ne (set_none ej).2 (set_none ek).2, r.pin, r.tb⟩
/-- a slot is taken out, as a value of one's own -/
theorem Rep.take (r : Rep G C F H σ env) (e : env[i]? = some (some (Ent.own t))) : ∃ v, σ[i]? = some (some v) ∧ RepV G C F H σ (env.set i none) t v := by
  obtain ⟨fp, r⟩ := r
  obtain ⟨v, h1, h2⟩ := r.own i t e
  exact ⟨v, h1, fp, fp i, ⟨r.st, r.sub, by simp [r.len], fun j tj e => r.own j tj (set_none e).2, r.bok, fun j tj e => r.bor j tj (set_none e).2, fun j tj e => r.nd j tj (set_none e).2, fun j k tj tk ne ej ek => r.dj j k tj tk ne (set_none ej).2 (set_none ek).2, r.pin, r.tb⟩, h2, (r.nd i t e).1, (r.nd i t e).2, fun j tj ej => r.dj j i tj t (set_none ej).1 (set_none ej).2 e⟩
/-- .. and put back, perhaps changed -/
theorem RepV.put (r : RepV G C F H σ (env.set i none) t v) (hv : σ[i]? = some (some v)) : Rep G C F H σ (env.set i (some (Ent.own t))) := by
  obtain ⟨fp, A, r, o, nd, mi, dj⟩ := r
  have old : ∀ {j : Nat} {x : Ent}, j ≠ i → env[j]? = some (some x) → (env.set i none)[j]? = some (some x) := fun {j x} q e => by
    rw [List.getElem?_set_ne (Ne.symm q)]
    exact e
  refine ⟨fun j => if j = i then A else fp j, r.st, r.sub, by have := r.len; simpa using this, fun j tj e => ?_, r.bok, fun j tj e => ?_, fun j tj e => ?_, fun j k tj tk ne ej ek a ha => ?_, r.pin, r.tb⟩
  · rcases set_some e with ⟨rfl, q, hl⟩ | ⟨q, e⟩
    · cases q
      rw [if_pos rfl]
      exact ⟨v, hv, o⟩
    · rw [if_neg q]
      exact r.own j tj (old q e)
  · rcases set_some e with ⟨rfl, q, hl⟩ | ⟨q, e⟩
    · cases q
    · exact r.bor j tj (old q e)
  · rcases set_some e with ⟨rfl, q, hl⟩ | ⟨q, e⟩
    · rw [if_pos rfl]; exact ⟨nd, mi⟩
    · rw [if_neg q]
      exact r.nd j tj (old q e)
  · rcases set_some ej with ⟨rfl, q, hl⟩ | ⟨q, ej2⟩
    · rw [if_pos rfl] at ha
      rcases set_some ek with ⟨rfl, _, _⟩ | ⟨qk, ek2⟩
      · exact absurd rfl ne
      · rw [if_neg qk]
        exact fun z => dj k tk (old qk ek2) a z ha
    · rw [if_neg q] at ha
      rcases set_some ek with ⟨rfl, _, _⟩ | ⟨qk, ek2⟩
      · rw [if_pos rfl]; exact dj j tj (old q ej2) a ha
      · rw [if_neg qk]
        exact r.dj j k tj tk ne (old q ej2) (old qk ek2) a ha
/-- a slot is frozen for good -/
theorem Rep.frz (r : Rep G C F H σ env) (e : env[i]? = some (some (Ent.own t))) : ∃ F', Gr F F' ∧ Rep G C F' H σ (env.set i (some (Ent.own (.fz (er t))))) := by
  obtain ⟨v, hv, q⟩ := r.take e
  obtain ⟨F', g, r', dn⟩ := q.froze
  exact ⟨F', g, (r'.fz dn).put hv⟩
/-- a value of one's own is changed: only its own objects are touched, or new ones -/
theorem RepV.change {t' : T} {v' : V} (r : RepV G C F H σ env t v) (h : ∀ A, Own G F H t v A → A.Nodup → (∀ a ∈ A, F a = none) → ∃ B, (∀ b ∈ B, b ∈ A) ∧ Step B F H F' H' ∧ Sub F' H' ∧ ∃ A', Own G F' H' t' v' A' ∧ A'.Nodup ∧ ∀ a ∈ A', a ∈ A ∨ H a = none) : RepV G C F' H' σ env t' v' := by
  obtain ⟨fp, A, r, o, nd, mi, dj⟩ := r
  obtain ⟨B, hB, s, sub, A', o', nd', hA'⟩ := h A o nd fun a ha => (o.mem a ha).1
  refine ⟨fp, A', r.step s sub (fun i ti e a ha z => dj i ti e a ha (hB a z)) (fun b hb => mi b (hB b hb)), o', nd', fun a ha => ?_, fun i ti e a ha z => ?_⟩
  · rcases hA' a ha with q | q
    · exact mi a q
    · rcases r.st.back q with w | w
      · exact .inl w
      · exact .inr w
  · obtain ⟨w, _, ow⟩ := r.own i ti e
    rcases hA' a z with q | q
    · exact dj i ti e a ha q
    · obtain ⟨_, u, e2⟩ := ow.mem a ha
      rw [q] at e2; cases e2
/-- a new object of one's own -/
theorem Rep.newO {o : HO} {p : Addr} (r : Rep G C F H σ env) (hp : H p = none) (ho : Own G F (upd H p o) t (.ref p) [p]) : RepV G C F (upd H p o) σ env t (.ref p) := by
  obtain ⟨fp, r⟩ := r
  have s : Step [] F H F (upd H p o) := ⟨.refl F, fun b u e => .inl ⟨u, e⟩, fun b u e _ => .inl (by rw [upd_ne (ne_of_none e hp)]; exact e), fun P q t => t.to (.refl F) fun ps e1 e2 => ⟨e1, by rw [upd_ne (ne_of_none e2 hp)]; exact e2⟩⟩
  have sub : Sub F (upd H p o) := fun b u e => by
    rw [upd_ne (ne_of_none (r.sub b u e) hp)]; exact r.sub b u e
  have r' := r.step s sub (fun _ _ _ _ _ z => nomatch z) (fun _ z => nomatch z)
  refine ⟨fp, [p], r', ho, by simp, fun a ha => ?_, fun i ti e a ha z => ?_⟩
  · rw [List.mem_singleton] at ha
    subst ha
    rcases r.st.back hp with w | w
    · exact .inl w
    · exact .inr w
  · rw [List.mem_singleton] at z
    subst z
    obtain ⟨w, _, ow⟩ := r.own i ti e
    obtain ⟨_, u, e2⟩ := ow.mem a ha
    rw [hp] at e2; cases e2

/-! ### looking only: everything that stands is lent -/
def lend : Ent → Ent
  | .own t => .bor t
  | .bor t => .bor t
def lendE (env : Env) : Env := env.map (Option.map lend)
def pureC (F H : Hp) (σ : L2.St) (env : Env) : DCtx := ⟨F, H, [], [], fun i => match σ[i]?, env[i]? with
  | some (some v), some (some (.own t)) => some (v, t)
  | some (some v), some (some (.bor t)) => some (v, t)
  | _, _ => none⟩
theorem Rep.pure (r : Rep G C F H σ env) : Rep G (pureC F H σ env) F H σ (lendE env) := by
  have look : ∀ {j : Nat} {x : Ent}, (lendE env)[j]? = some (some x) → ∃ t, x = .bor t ∧ (env[j]? = some (some (.own t)) ∨ env[j]? = some (some (.bor t))) := fun {j x} e => by
    unfold lendE at e
    rw [List.getElem?_map] at e
    cases q : env[j]? with
    | none => rw [q] at e; cases e
    | some o =>
      cases o with
      | none => rw [q] at e; cases e
      | some y =>
        rw [q] at e
        cases y with
        | own t => cases e; exact ⟨t, rfl, .inl rfl⟩
        | bor t => cases e; exact ⟨t, rfl, .inr rfl⟩
  have no : ∀ {j : Nat} {t : T}, (lendE env)[j]? = some (some (.own t)) → False := fun {j t} e => by
    obtain ⟨_, h, _⟩ := look e
    cases h
  refine ⟨fun _ => [], .refl, r.sub, ?_, fun j t e => (no e).elim, fun j v t e => ?_, fun j t e => ?_, fun j t e => (no e).elim, fun j k t u _ e => (no e).elim, fun j w h => (by cases h), by obtain ⟨fp, r⟩ := r; exact r.tb⟩
  · obtain ⟨fp, r⟩ := r
    unfold lendE
    rw [List.length_map]; exact r.len
  · have e : (match σ[j]?, env[j]? with
      | some (some v), some (some (Ent.own t)) => some (v, t)
      | some (some v), some (some (Ent.bor t)) => some (v, t)
      | _, _ => none) = some (v, t) := e
    split at e
    · rename_i v' t' e1 e2
      cases e
      obtain ⟨u, B, h1, h2⟩ := r.at_ (.inl e2)
      rw [e1] at h1; cases h1
      exact ⟨B, h2, fun _ _ z => nomatch z⟩
    · rename_i v' t' e1 e2
      cases e
      obtain ⟨u, B, h1, h2⟩ := r.at_ (.inr e2)
      rw [e1] at h1; cases h1
      exact ⟨B, h2, fun _ _ z => nomatch z⟩
    · cases e
  · obtain ⟨t', h, q⟩ := look e
    cases h
    obtain ⟨v, B, h1, h2⟩ := r.at_ q
    refine ⟨v, h1, ?_⟩
    show (match σ[j]?, env[j]? with
      | some (some v), some (some (Ent.own t)) => some (v, t)
      | some (some v), some (some (Ent.bor t)) => some (v, t)
      | _, _ => none) = some (v, t)
    rcases q with q | q <;> rw [h1, q]
/-- a value of one's own is held while one goes on with the rest -/
theorem RepV.hold (r : RepV G C F H σ env t v) : ∃ C', C'.pv = C.pv ∧ C'.F0 = F ∧ Rep G C' F H σ env ∧ (∀ {F' H' : Hp} {σ' : L2.St} {env' : Env}, Rep G C' F' H' σ' env' → RepV G C F' H' σ' env' t v) := by
  obtain ⟨fp, A, r, o, nd, mi, dj⟩ := r
  obtain ⟨A0, hA0⟩ : ∃ A0 : List Addr, ∀ a, a ∈ A0 ↔ ∃ (i : Nat) (t : T), env[i]? = some (some (Ent.own t)) ∧ a ∈ fp i := by
    refine ⟨(List.range env.length).flatMap fun i => match env[i]? with
      | some (some (Ent.own _)) => fp i
      | _ => [], fun a => ?_⟩
    rw [List.mem_flatMap]
    constructor
    · rintro ⟨i, hi, h⟩
      split at h
      · rename_i t e; exact ⟨i, t, e, h⟩
      · cases h
    · rintro ⟨i, t, e, h⟩
      refine ⟨i, List.mem_range.mpr (List.getElem?_eq_some_iff.mp e).1, ?_⟩
      rw [e]; exact h
  have mA : C.mine A0 := fun a ha => by
    obtain ⟨i, t, e, h⟩ := (hA0 a).mp ha
    exact (r.nd i t e).2 a h
  refine ⟨⟨F, H, A0, C.pv, C.bo⟩, rfl, rfl, ⟨fp, .refl, r.sub, r.len, r.own, fun i v t e => ?_, r.bor, fun i t e => ⟨(r.nd i t e).1, fun a ha => .inl ((hA0 a).mpr ⟨i, t, e, ha⟩)⟩, r.dj, r.pin, r.tb⟩, fun {F' H' σ' env'} r' => ?_⟩
  · obtain ⟨B, h1, h2⟩ := r.bok i v t e
    refine ⟨B, h1.step r.st h2, fun b hb z => ?_⟩
    rcases mA b z with q | q
    · exact h2 b hb q
    · obtain ⟨_, o1, e1⟩ := h1.mem b hb
      rw [q] at e1; cases e1
  · obtain ⟨fp', r'⟩ := r'
    have dA : ∀ a ∈ A, a ∉ A0 := fun a ha z => by
      obtain ⟨i, t, e, h⟩ := (hA0 a).mp z
      exact dj i t e a h ha
    refine ⟨fp', A, ⟨r.st.trans r'.st mA, r'.sub, r'.len, r'.own, r.bok, r'.bor, fun i t e => ⟨(r'.nd i t e).1, fun a ha => ?_⟩, r'.dj, r'.pin, r'.tb⟩, o.step r'.st dA, nd, mi, fun i ti e a ha z => ?_⟩
    · rcases (r'.nd i t e).2 a ha with q | q
      · exact mA a q
      · exact r.st.back q
    · rcases (r'.nd i ti e).2 a ha with q | q
      · exact dA a z q
      · obtain ⟨_, o1, e1⟩ := o.mem a z
        have q' : H a = none := q
        rw [q'] at e1; cases e1
theorem Rep.held (r : Rep G C F H σ env) : ∃ C', C'.pv = C.pv ∧ C'.F0 = F ∧ Rep G C' F H σ env ∧ (∀ {F' H' : Hp} {σ' : L2.St} {env' : Env}, Rep G C' F' H' σ' env' → Rep G C F' H' σ' env') ∧ (∀ {F' H' : Hp} {σ' : L2.St} {env' : Env} {u : T} {y : V}, RepV G C' F' H' σ' env' u y → RepV G C F' H' σ' env' u y) := by
  obtain ⟨fp, r⟩ := r
  obtain ⟨A0, hA0⟩ : ∃ A0 : List Addr, ∀ a, a ∈ A0 ↔ ∃ (i : Nat) (t : T), env[i]? = some (some (Ent.own t)) ∧ a ∈ fp i := by
    refine ⟨(List.range env.length).flatMap fun i => match env[i]? with
      | some (some (Ent.own _)) => fp i
      | _ => [], fun a => ?_⟩
    rw [List.mem_flatMap]
    constructor
    · rintro ⟨i, hi, h⟩
      split at h
      · rename_i t e; exact ⟨i, t, e, h⟩
      · cases h
    · rintro ⟨i, t, e, h⟩
      refine ⟨i, List.mem_range.mpr (List.getElem?_eq_some_iff.mp e).1, ?_⟩
      rw [e]; exact h
  have mA : C.mine A0 := fun a ha => by
    obtain ⟨i, t, e, h⟩ := (hA0 a).mp ha
    exact (r.nd i t e).2 a h
  have mi : ∀ {L : List Addr}, (∀ a ∈ L, a ∈ A0 ∨ H a = none) → C.mine L := fun {L} h a ha => by
    rcases h a ha with q | q
    · exact mA a q
    · exact r.st.back q
  have back : ∀ {F' H' : Hp} {σ' : L2.St} {env' : Env} {fp' : Nat → List Addr}, RepF G ⟨F, H, A0, C.pv, C.bo⟩ F' H' σ' env' fp' → RepF G C F' H' σ' env' fp' := fun {F' H' σ' env' fp'} r' =>
    ⟨r.st.trans r'.st mA, r'.sub, r'.len, r'.own, r.bok, r'.bor, fun i t e => ⟨(r'.nd i t e).1, mi (r'.nd i t e).2⟩, r'.dj, r'.pin, r'.tb⟩
  refine ⟨⟨F, H, A0, C.pv, C.bo⟩, rfl, rfl, ⟨fp, .refl, r.sub, r.len, r.own, fun i v t e => ?_, r.bor, fun i t e => ⟨(r.nd i t e).1, fun a ha => .inl ((hA0 a).mpr ⟨i, t, e, ha⟩)⟩, r.dj, r.pin, r.tb⟩, fun {F' H' σ' env'} ⟨fp', r'⟩ => ⟨fp', back r'⟩, fun {F' H' σ' env' u y} ⟨fp', A, r', o, nd, m, dj⟩ => ⟨fp', A, back r', o, nd, mi m, dj⟩⟩
  obtain ⟨B, h1, h2⟩ := r.bok i v t e
  refine ⟨B, h1.step r.st h2, fun b hb z => ?_⟩
  rcases mA b z with q | q
  · exact h2 b hb q
  · obtain ⟨_, o1, e1⟩ := h1.mem b hb
    rw [q] at e1; cases e1
end
end DL

end
section
namespace DL
open PySem PySem.Spec PyProof.Rows L2
variable [TB]

/-! ### what comes out -/
structure Exn where
  c : Nat
  fs : List (Str × D)
inductive Out (α : Type) where
  | ok (a : α) (e : Env) | exc (x : Exn) (e : Env) | fail
def Out.bind {α β : Type} (o : Out α) (k : α → Env → Out β) : Out β :=
  match o with
  | .ok a e => k a e
  | .exc x e => .exc x e
  | .fail => .fail
def lft {α : Type} (o : Option α) (e : Env) : Out α :=
  match o with
  | some a => .ok a e
  | none => .fail
def Out.map {α β : Type} (o : Out α) (f : α → β) : Out β := o.bind fun a e => .ok (f a) e
inductive Fl where
  | nx | bk | ct | rt (t : T)
/-- an exception: its class, its dict -/
def DenX (G : Tx) (F : Hp) (cls : Value) (dd : Option Addr) (x : Exn) : Prop := ∃ C d vs, cls = .ref C ∧ G.ct x.c = some C ∧ dd = some d ∧ F d = some (.xd vs) ∧ DenF G F x.fs vs
theorem DenX.gr {G : Tx} {F F' : Hp} {cls : Value} {dd : Option Addr} {x : Exn} (h : DenX G F cls dd x) (g : Gr F F') : DenX G F' cls dd x := by
  obtain ⟨C, d, vs, e1, e2, e3, e4, e5⟩ := h
  exact ⟨C, d, vs, e1, e2, e3, g.keep e4 (by rintro (⟨_, h⟩ | ⟨_, h⟩) <;> cases h), e5.gr g⟩

/-- what holds of a result (the relation Rl) is enough for Q -/
def pst {α β : Type} (Rl : α → Hp → Hp → Env → β → Prop) (Ex : Exn → Env → Hp → Prop) (Q : β → Hp → Prop) (F : Hp) : Out α → Prop
  | .ok a e => ∀ v H' F', Gr F F' → Rl a F' H' e v → Q v H'
  | .exc x e => Ex x e F
  | .fail => False
def exW (G : Tx) (W : WX) (C : DCtx) (σ : L2.St) (x : Exn) (e : Env) (F : Hp) : Prop := ∀ cls dd H' F', Gr F F' → Rep G C F' H' σ e → DenX G F' cls dd x → W cls dd σ H'
theorem exW.gr {G : Tx} {W : WX} {C : DCtx} {σ : L2.St} {x : Exn} {e : Env} {F F' : Hp} (h : exW G W C σ x e F) (g : Gr F F') : exW G W C σ x e F' := fun cls dd H' F2 g2 => h cls dd H' F2 (g.trans g2)
theorem pst.gr {G : Tx} {W : WX} {C : DCtx} {σ : L2.St} {α β : Type} {Rl : α → Hp → Hp → Env → β → Prop} {Q : β → Hp → Prop} {F F' : Hp} {o : Out α} (h : pst Rl (exW G W C σ) Q F o) (g : Gr F F') : pst Rl (exW G W C σ) Q F' o := by
  cases o with
  | ok a e => exact fun v H' F2 g2 => h v H' F2 (g.trans g2)
  | exc x e => exact exW.gr h g
  | fail => exact h
theorem pst_bind {G : Tx} {W : WX} {C : DCtx} {σ : L2.St} {α β α' β' : Type} {R1 : α → Hp → Hp → Env → β → Prop} {R2 : α' → Hp → Hp → Env → β' → Prop} {Q : β' → Hp → Prop} {R : β → Hp → Prop} {F : Hp} {o : Out α} {k : α → Env → Out α'}
    (h : pst R2 (exW G W C σ) Q F (o.bind k)) (hR : ∀ a e v H' F', Gr F F' → R1 a F' H' e v → pst R2 (exW G W C σ) Q F' (k a e) → R v H') : pst R1 (exW G W C σ) R F o := by
  cases o with
  | ok a e => exact fun v H' F' g r => hR a e v H' F' g r (pst.gr (show pst R2 (exW G W C σ) Q F (k a e) from h) g)
  | exc x e => exact h
  | fail => exact h

abbrev RlE (G : Tx) (C : DCtx) (σ : L2.St) (d : D) (F H : Hp) (e : Env) (v : V) : Prop := Rep G C F H σ e ∧ Den G F d v
abbrev RlO (G : Tx) (C : DCtx) (σ : L2.St) (t : T) (F H : Hp) (e : Env) (v : V) : Prop := RepV G C F H σ e t v
abbrev RlA (G : Tx) (C : DCtx) (σ : L2.St) (ds : List D) (F H : Hp) (e : Env) (vs : List V) : Prop := Rep G C F H σ e ∧ DenL G F ds vs
abbrev RlT (G : Tx) (C : DCtx) (σ : L2.St) (b : Bool) (F H : Hp) (e : Env) (v : Bool) : Prop := Rep G C F H σ e ∧ v = b
def dE (G : Tx) (W : WX) (C : DCtx) (g : Env → Out D) : TE := fun σ H Q => ∃ F env, Rep G C F H σ env ∧ pst (RlE G C σ) (exW G W C σ) Q F (g env)
def dO (G : Tx) (W : WX) (C : DCtx) (g : Env → Out T) : TE := fun σ H Q => ∃ F env, Rep G C F H σ env ∧ pst (RlO G C σ) (exW G W C σ) Q F (g env)
def dA (G : Tx) (W : WX) (C : DCtx) (g : Env → Out (List D)) : TA := fun σ H Q => ∃ F env, Rep G C F H σ env ∧ pst (RlA G C σ) (exW G W C σ) Q F (g env)
def dT (G : Tx) (W : WX) (C : DCtx) (g : Env → Out Bool) : TT := fun σ H Q => ∃ F env, Rep G C F H σ env ∧ pst (RlT G C σ) (exW G W C σ) Q F (g env)
/-- a statement -/
def pS (G : Tx) (W : WX) (C : DCtx) (N : Ends) (F : Hp) : Out Fl → Prop
  | .ok .nx e => ∀ σ' H' F', Gr F F' → Rep G C F' H' σ' e → N.nx σ' H'
  | .ok .bk e => ∀ σ' H' F', Gr F F' → Rep G C F' H' σ' e → N.bk σ' H'
  | .ok .ct e => ∀ σ' H' F', Gr F F' → Rep G C F' H' σ' e → N.ct σ' H'
  | .ok (.rt t) e => ∀ v σ' H' F', Gr F F' → RepV G C F' H' σ' e t v → N.rt v H'
  | .exc x e => ∀ cls dd σ' H' F', Gr F F' → Rep G C F' H' σ' e → DenX G F' cls dd x → W cls dd σ' H'
  | .fail => False
def dS (G : Tx) (W : WX) (C : DCtx) (g : Env → Out Fl) : TS := fun N σ H => ∃ F env, Rep G C F H σ env ∧ pS G W C N F (g env)
theorem pS.gr {G : Tx} {W : WX} {C : DCtx} {N : Ends} {F F' : Hp} {o : Out Fl} (h : pS G W C N F o) (g : Gr F F') : pS G W C N F' o := by
  cases o with
  | ok a e =>
    cases a with
    | nx => exact fun σ' H' F2 g2 => h σ' H' F2 (g.trans g2)
    | bk => exact fun σ' H' F2 g2 => h σ' H' F2 (g.trans g2)
    | ct => exact fun σ' H' F2 g2 => h σ' H' F2 (g.trans g2)
    | rt t => exact fun v σ' H' F2 g2 => h v σ' H' F2 (g.trans g2)
  | exc x e => exact fun cls dd σ' H' F2 g2 => h cls dd σ' H' F2 (g.trans g2)
  | fail => exact h
theorem pS_bind {G : Tx} {W : WX} {C : DCtx} {σ : L2.St} {α β : Type} {R1 : α → Hp → Hp → Env → β → Prop} {N : Ends} {R : β → Hp → Prop} {F : Hp} {o : Out α} {k : α → Env → Out Fl}
    (h : pS G W C N F (o.bind k)) (hR : ∀ a e v H' F', Gr F F' → R1 a F' H' e v → pS G W C N F' (k a e) → R v H') : pst R1 (exW G W C σ) R F o := by
  cases o with
  | ok a e => exact fun v H' F' g r => hR a e v H' F' g r (pS.gr (show pS G W C N F (k a e) from h) g)
  | exc x e => exact fun cls dd H' F' g r dx => h cls dd σ H' F' g r dx
  | fail => exact h
def seqF (o : Out Fl) (k : Env → Out Fl) : Out Fl :=
  match o with
  | .ok .nx e => k e
  | o => o

/-! ### the judgements -/
abbrev DE (X : Cx) (G : Tx) (W : WX) (C : DCtx) (e : Expr) (g : Env → Out D) : Prop := PE X e (dE G W C g)
abbrev DO (X : Cx) (G : Tx) (W : WX) (C : DCtx) (e : Expr) (g : Env → Out T) : Prop := PE X e (dO G W C g)
abbrev DA (X : Cx) (G : Tx) (W : WX) (C : DCtx) (es : List Expr) (g : Env → Out (List D)) : Prop := PA X es (dA G W C g)
abbrev DT (X : Cx) (G : Tx) (W : WX) (C : DCtx) (e : Expr) (g : Env → Out Bool) : Prop := PT X e (dT G W C g)
abbrev DW (X : Cx) (G : Tx) (W : WX) (C : DCtx) (e : Expr) (g : Env → Out Bool) : Prop := PW X e (dT G W C g)
abbrev DS (X : Cx) (G : Tx) (W : WX) (C : DCtx) (s : Stmt) (g : Env → Out Fl) : Prop := PS X s (dS G W C g)
abbrev DSs (X : Cx) (G : Tx) (W : WX) (C : DCtx) (s : List Stmt) (g : Env → Out Fl) : Prop := PSs X s (dS G W C g)
section
variable {X : Cx}
theorem PE_imp {e : Expr} {t t' : TE} (h : PE X e t) (k : ∀ σ H Q, t' σ H Q → t σ H Q) : PE X e t' := ⟨fun pins s σ H Q I w => h.run pins s σ H Q I (k σ H Q w)⟩
theorem PT_imp {e : Expr} {t t' : TT} (h : PT X e t) (k : ∀ σ H Q, t' σ H Q → t σ H Q) : PT X e t' := ⟨fun pins s σ H Q I w => h.run pins s σ H Q I (k σ H Q w)⟩
theorem PW_imp {e : Expr} {t t' : TT} (h : PW X e t) (k : ∀ σ H Q, t' σ H Q → t σ H Q) : PW X e t' := ⟨fun wh pins s σ H Q I w => h.run wh pins s σ H Q I (k σ H Q w)⟩
theorem PA_imp {es : List Expr} {t t' : TA} (h : PA X es t) (k : ∀ σ H Q, t' σ H Q → t σ H Q) : PA X es t' := ⟨fun pos pins s σ H Q I w => h.run pos pins s σ H Q I (k σ H Q w)⟩
theorem PS_imp {s : Stmt} {t t' : TS} (h : PS X s t) (k : ∀ N σ H, t' N σ H → t N σ H) : PS X s t' := ⟨fun pins s σ H N I w => h.run pins s σ H N I (k N σ H w)⟩
theorem PSs_imp {s : List Stmt} {t t' : TS} (h : PSs X s t) (k : ∀ N σ H, t' N σ H → t N σ H) : PSs X s t' := ⟨fun pins s σ H N I w => h.run pins s σ H N I (k N σ H w)⟩
end

/-- only new objects come: frozen, whole -/
structure Lay (F H F' H' : Hp) : Prop where
  st : Step [] F H F' H'
  sub : Sub F' H'
theorem Lay.refl {F H : Hp} (s : Sub F H) : Lay F H F H := ⟨.refl, s⟩
theorem Lay.gr {F H F' H' : Hp} (l : Lay F H F' H') : Gr F F' := l.st.gr
theorem Lay.new {F H : Hp} {p : Addr} {o : HO} (s : Sub F H) (hp : H p = none) : Lay F H (upd F p o) (upd H p o) := by
  have fp0 : F p = none := by
    cases e : F p with
    | none => rfl
    | some u => rw [s p u e] at hp; cases hp
  have g : Gr F (upd F p o) := Gr.of_sub fun a u e => by rw [upd_ne (ne_of_none e fp0)]; exact e
  refine ⟨⟨g, fun b u e => ?_, fun b u e _ => ?_, fun P q t => t.to g fun ps e1 e2 => ⟨by rw [upd_ne (ne_of_none e2 hp)]; exact e1, by rw [upd_ne (ne_of_none e2 hp)]; exact e2⟩⟩, fun b u e => ?_⟩
  · by_cases h : b = p
    · rw [h]; exact .inr (.inr (.inl hp))
    · rw [upd_ne h] at e; exact .inl ⟨u, e⟩
  · rw [upd_ne (ne_of_none e hp)]; exact .inl e
  · by_cases h : b = p
    · subst h; rw [upd_same] at e ⊢; exact e
    · rw [upd_ne h] at e ⊢; exact s b u e
theorem Rep.lay {G : Tx} {C : DCtx} {F H F' H' : Hp} {σ : L2.St} {env : Env} (r : Rep G C F H σ env) (l : Lay F H F' H') : Rep G C F' H' σ env := r.step0 l.st l.sub

/-- .. and the tables are well -/
structure SubT (G : Tx) (F H : Hp) : Prop where
  s : Sub F H
  tb : TbOk G F H
instance {G : Tx} {F H : Hp} : CoeHead (SubT G F H) (Sub F H) := ⟨SubT.s⟩
instance {G : Tx} {F H : Hp} : CoeFun (SubT G F H) (fun _ => ∀ a o, F a = some o → H a = some o) := ⟨SubT.s⟩
theorem Rep.subT {G : Tx} {C : DCtx} {F H : Hp} {σ : L2.St} {env : Env} (r : Rep G C F H σ env) : SubT G F H := ⟨r.sub, r.tb⟩
/-- an operator of two values, by data -/
def OpD (G : Tx) (r : R2) (f : D → D → Option D) : Prop := ∀ F H da db d x y Q, SubT G F H → Den G F da x → Den G F db y → f da db = some d → (∀ v F' H', Lay F H F' H' → Den G F' d v → Q v H') → r x y H Q
def UnD (G : Tx) (r : V → Hp → VK → Prop) (f : D → Option D) : Prop := ∀ F H da d x Q, SubT G F H → Den G F da x → f da = some d → (∀ v F' H', Lay F H F' H' → Den G F' d v → Q v H') → r x H Q
def CallD (G : Tx) (r : List V → Hp → VK → Prop) (f : List D → Option D) : Prop := ∀ F H ds d xs Q, SubT G F H → DenL G F ds xs → f ds = some d → (∀ v F' H', Lay F H F' H' → Den G F' d v → Q v H') → r xs H Q
/-- .. handing out a new object of one's own -/
def NewO (G : Tx) (F H : Hp) (t : T) (Q : VK) : Prop := ∀ p o, H p = none → Own G F (upd H p o) t (.ref p) [p] → Q (.ref p) (upd H p o)
def OpO (G : Tx) (r : R2) (f : D → D → Option T) : Prop := ∀ F H da db t x y Q, SubT G F H → Den G F da x → Den G F db y → f da db = some t → NewO G F H t Q → r x y H Q
def CallO (G : Tx) (r : List V → Hp → VK → Prop) (f : List D → Option T) : Prop := ∀ F H ds t xs Q, SubT G F H → DenL G F ds xs → f ds = some t → NewO G F H t Q → r xs H Q

section
variable {X : Cx} {G : Tx} {W : WX} {C : DCtx} {a b e : Expr} {ga gb : Env → Out D} {pos : Pos}
/-! ### values -/
theorem de_int {i j pos} : DE X G W C (.Constant (.int i) j pos) (fun env => .ok (.int i) env) := PE_imp pe_int fun σ H Q ⟨F, env, r, h⟩ => h _ H F (.refl F) ⟨r, by simp [Den]⟩
theorem de_bl {i j pos} : DE X G W C (.Constant (.bool i) j pos) (fun env => .ok (.bl i) env) := PE_imp pe_bl fun σ H Q ⟨F, env, r, h⟩ => h _ H F (.refl F) ⟨r, by simp [Den]⟩
theorem de_non {j pos} : DE X G W C (.Constant .none j pos) (fun env => .ok .non env) := PE_imp pe_non fun σ H Q ⟨F, env, r, h⟩ => h _ H F (.refl F) ⟨r, by simp [Den]⟩
theorem de_str {x j pos} : DE X G W C (.Constant (.str x) j pos) (fun env => .ok (.str x) env) := PE_imp pe_str fun σ H Q ⟨F, env, r, h⟩ => h _ H F (.refl F) ⟨r, by simp [Den]⟩
/-- a slot that holds what is frozen -/
def rdv (i : Nat) (env : Env) : Out D :=
  match env[i]? with
  | some (some (Ent.own (.fz d))) => .ok d env
  | some (some (Ent.bor (.fz d))) => .ok d env
  | _ => .fail
theorem de_v (i : Nat) {x : Str} {pos : Pos} (hN : X.N[i]? = some x := by rfl) (hv : Vis X.env.scope x := by first | exact Or.inl rfl | exact Or.inr (Or.inl rfl) | exact Or.inr (Or.inr rfl)) (hd : (x == ("__debug__" : Str)) = false := by decide)
    (hcd : (x == ("__classdict__" : Str)) = false := by decide) : DE X G W C (.Name x pos) (rdv i) := PE_imp (pe_var hN hv hd hcd) fun σ H Q ⟨F, env, r, h⟩ => by
  unfold rdv at h
  split at h
  · rename_i d e
    obtain ⟨v, B, h1, h2⟩ := r.at_ (.inl e)
    simp only [Own] at h2
    exact ⟨v, h1, h v H F (.refl F) ⟨r, h2.2⟩⟩
  · rename_i d e
    obtain ⟨v, B, h1, h2⟩ := r.at_ (.inr e)
    simp only [Own] at h2
    exact ⟨v, h1, h v H F (.refl F) ⟨r, h2.2⟩⟩
  · exact h.elim
/-- a constant of the module -/
theorem de_glob {x : Str} {v : V} {u : Value} {d : D} {pos : Pos} (hg : Gl X x) (hm : X.mg x = some u) (rv : RelV v u) (hden : ∀ F, Den G F d v) (hd : (x == ("__debug__" : Str)) = false := by decide) : DE X G W C (.Name x pos) (fun env => .ok d env) :=
  PE_imp (pe_glob hg hm rv hd) fun σ H Q ⟨F, env, r, h⟩ => h v H F (.refl F) ⟨r, hden F⟩
/-- what is one's own is frozen -/
theorem de_of {g : Env → Out T} (h : DO X G W C e g) : DE X G W C e (fun env => (g env).map er) := PE_imp h fun σ H Q ⟨F, env, r, q⟩ => ⟨F, env, r, pst_bind q fun t e v H1 F1 g1 r1 q1 => by
  obtain ⟨F2, g2, r2, d2⟩ := RepV.froze r1
  exact q1 v H1 F2 g2 ⟨r2, d2⟩⟩
theorem do_of (h : DE X G W C e ga) : DO X G W C e (fun env => (ga env).map T.fz) := PE_imp h fun σ H Q ⟨F, env, r, q⟩ => ⟨F, env, r, pst_bind q fun t e v H1 F1 g1 r1 q1 => q1 v H1 F1 (.refl F1) (Rep.fz r1.1 r1.2)⟩
theorem de_op {op : Operator} {r : R2} {f : D → D → Option D} (ho : OpR X (binaryOp op) r) (hd : OpD G r f) (ha : DE X G W C a ga) (hb : DE X G W C b gb) : DE X G W C (.BinOp a op b pos) (fun env => (ga env).bind fun x e => (gb e).bind fun y e => lft (f x y) e) :=
  PE_imp (pe_op ho ha hb) fun σ H Q ⟨F, env, rp, h⟩ => ⟨F, env, rp, pst_bind h fun da e1 x H1 F1 g1 r1 h1 => ⟨F1, e1, r1.1, pst_bind h1 fun db e2 y H2 F2 g2 r2 h2 => by
    cases e : f da db with
    | none => rw [e] at h2; exact h2.elim
    | some d =>
      rw [e] at h2
      exact hd F2 H2 da db d x y Q r2.1.subT (r1.2.gr g2) r2.2 e fun v F' H' l dv => h2 v H' F' l.gr ⟨r2.1.lay l, dv⟩⟩⟩
theorem RepV.new {F H : Hp} {σ : L2.St} {env : Env} {t : T} {Q : VK} {F0 : Hp} (r : Rep G C F H σ env) (h : ∀ v H' F', Gr F F' → RepV G C F' H' σ env t v → Q v H') : NewO G F H t Q := fun p o hp ow => h _ _ F (.refl F) (r.newO hp ow)
theorem do_op {op : Operator} {r : R2} {f : D → D → Option T} (ho : OpR X (binaryOp op) r) (hd : OpO G r f) (ha : DE X G W C a ga) (hb : DE X G W C b gb) : DO X G W C (.BinOp a op b pos) (fun env => (ga env).bind fun x e => (gb e).bind fun y e => lft (f x y) e) :=
  PE_imp (pe_op ho ha hb) fun σ H Q ⟨F, env, rp, h⟩ => ⟨F, env, rp, pst_bind h fun da e1 x H1 F1 g1 r1 h1 => ⟨F1, e1, r1.1, pst_bind h1 fun db e2 y H2 F2 g2 r2 h2 => by
    cases e : f da db with
    | none => rw [e] at h2; exact h2.elim
    | some d =>
      rw [e] at h2
      exact hd F2 H2 da db d x y Q r2.1.subT (r1.2.gr g2) r2.2 e (RepV.new (F0 := F2) r2.1 h2)⟩⟩
theorem de_un {op : UnaryOp} {r : V → Hp → VK → Prop} {f : D → Option D} (ho : UnR X (unaryOp op) r) (hd : UnD G r f) (ha : DE X G W C a ga) : DE X G W C (.UnaryOp op a pos) (fun env => (ga env).bind fun x e => lft (f x) e) :=
  PE_imp (pe_un ho ha) fun σ H Q ⟨F, env, rp, h⟩ => ⟨F, env, rp, pst_bind h fun da e1 x H1 F1 g1 r1 h1 => by
    cases e : f da with
    | none => rw [e] at h1; exact h1.elim
    | some d =>
      rw [e] at h1
      exact hd F1 H1 da d x Q r1.1.subT r1.2 e fun v F' H' l dv => h1 v H' F' l.gr ⟨r1.1.lay l, dv⟩⟩
theorem de_cmp {op : CmpOp} {r : R2} {f : D → D → Option D} (ho : OpR X (compareOp op) r) (hd : OpD G r f) (ha : DE X G W C a ga) (hb : DE X G W C b gb) (hm : behindInMarks op b = false := by first | exact nobehind _ (by decide) (by decide) | rfl) :
    DE X G W C (.Compare a [op] [b] pos) (fun env => (ga env).bind fun x e => (gb e).bind fun y e => lft (f x y) e) :=
  PE_imp (pe_cmpR ho ha hb hm) fun σ H Q ⟨F, env, rp, h⟩ => ⟨F, env, rp, pst_bind h fun da e1 x H1 F1 g1 r1 h1 => ⟨F1, e1, r1.1, pst_bind h1 fun db e2 y H2 F2 g2 r2 h2 => by
    cases e : f da db with
    | none => rw [e] at h2; exact h2.elim
    | some d =>
      rw [e] at h2
      exact hd F2 H2 da db d x y Q r2.1.subT (r1.2.gr g2) r2.2 e fun v F' H' l dv => h2 v H' F' l.gr ⟨r2.1.lay l, dv⟩⟩⟩
/-- its truth, where it is a bool -/
def asB : D → Option Bool
  | .bl b => some b
  | _ => none
theorem dt_cmp {op : CmpOp} {r : R2} {f : D → D → Option D} (ho : OpR X (compareOp op) r) (hd : OpD G r f) (ha : DE X G W C a ga) (hb : DE X G W C b gb) (hm : behindInMarks op b = false := by first | exact nobehind _ (by decide) (by decide) | rfl) :
    DT X G W C (.Compare a [op] [b] pos) (fun env => (ga env).bind fun x e => (gb e).bind fun y e => lft ((f x y).bind asB) e) :=
  PT_imp (pt_cmpR ho ha hb hm) fun σ H Q ⟨F, env, rp, h⟩ => ⟨F, env, rp, pst_bind h fun da e1 x H1 F1 g1 r1 h1 => ⟨F1, e1, r1.1, pst_bind h1 fun db e2 y H2 F2 g2 r2 h2 => by
    cases e : f da db with
    | none => rw [e] at h2; exact h2.elim
    | some d =>
      rw [e] at h2
      refine hd F2 H2 da db d x y _ r2.1.subT (r1.2.gr g2) r2.2 e fun v F' H' l dv => ?_
      cases d with
      | bl k =>
        simp only [Den] at dv
        exact ⟨k, dv, h2 k H' F' l.gr ⟨r2.1.lay l, rfl⟩⟩
      | _ => exact h2.elim⟩⟩
theorem dt_val (h : DE X G W C e ga) (he : ∀ whole, isTrue e X.env whole = (do let v ← whole; standAt e.pos; holding [v] (truthy v)) := by intro _; rfl) : DT X G W C e (fun env => (ga env).bind fun x e => lft (asB x) e) :=
  PT_imp (pt_val h he) fun σ H Q ⟨F, env, rp, h⟩ => ⟨F, env, rp, pst_bind h fun da e1 x H1 F1 g1 r1 h1 => by
    cases da with
    | bl k =>
      have z := r1.2
      simp only [Den] at z
      exact ⟨k, z, h1 k H1 F1 (.refl F1) ⟨r1.1, rfl⟩⟩
    | _ => exact h1.elim⟩
variable {tA tB' : Env → Out Bool} {rest : List Expr}
theorem dw_and1 (ha : DT X G W C a tA) : DW X G W C (.BoolOp .And [a] pos) tA := pw_and1 ha
theorem dw_or1 (ha : DT X G W C a tA) : DW X G W C (.BoolOp .Or [a] pos) tA := pw_or1 ha
theorem dw_and (ha : DT X G W C a tA) (hb : DW X G W C (.BoolOp .And (b :: rest) pos) tB') : DW X G W C (.BoolOp .And (a :: b :: rest) pos) (fun env => (tA env).bind fun c e => if c = true then tB' e else .ok false e) :=
  PW_imp (pw_and ha hb) fun σ H Q ⟨F, env, rp, h⟩ => ⟨F, env, rp, pst_bind h fun c e1 c' H1 F1 g1 r1 h1 => by
    obtain ⟨r1, rfl⟩ := r1
    cases c' with
    | true => exact ⟨F1, e1, r1, h1⟩
    | false => exact h1 false H1 F1 (.refl F1) ⟨r1, rfl⟩⟩
theorem dw_or (ha : DT X G W C a tA) (hb : DW X G W C (.BoolOp .Or (b :: rest) pos) tB') : DW X G W C (.BoolOp .Or (a :: b :: rest) pos) (fun env => (tA env).bind fun c e => if c = true then .ok true e else tB' e) :=
  PW_imp (pw_or ha hb) fun σ H Q ⟨F, env, rp, h⟩ => ⟨F, env, rp, pst_bind h fun c e1 c' H1 F1 g1 r1 h1 => by
    obtain ⟨r1, rfl⟩ := r1
    cases c' with
    | false => exact ⟨F1, e1, r1, h1⟩
    | true => exact h1 true H1 F1 (.refl F1) ⟨r1, rfl⟩⟩
theorem dt_w (h : DW X G W C e tA) : DT X G W C e tA := PW.pt h
theorem dt_not (ha : DT X G W C a tA) : DT X G W C (.UnaryOp .Not a pos) (fun env => (tA env).bind fun c e => .ok (!c) e) :=
  PT_imp (pt_not ha) fun σ H Q ⟨F, env, rp, h⟩ => ⟨F, env, rp, pst_bind h fun c e1 c' H1 F1 g1 r1 h1 => by
    obtain ⟨r1, rfl⟩ := r1
    exact h1 _ H1 F1 (.refl F1) ⟨r1, rfl⟩⟩
theorem de_one {op} (h : DE X G W C a ga) : DE X G W C (.BoolOp op [a] pos) ga := pe_one h
theorem de_and (ha : DE X G W C a ga) (hb : DE X G W C (.BoolOp .And (b :: rest) pos) gb) : DE X G W C (.BoolOp .And (a :: b :: rest) pos) (fun env => (ga env).bind fun x e => match x with | .bl true => gb e | .bl false => .ok (.bl false) e | _ => .fail) :=
  PE_imp (pe_and ha hb) fun σ H Q ⟨F, env, rp, h⟩ => ⟨F, env, rp, pst_bind h fun da e1 x H1 F1 g1 r1 h1 => by
    cases da with
    | bl k =>
      have z := r1.2
      simp only [Den] at z
      cases k with
      | true => exact ⟨true, z, ⟨F1, e1, r1.1, h1⟩⟩
      | false => exact ⟨false, z, h1 _ H1 F1 (.refl F1) ⟨r1.1, by simp [Den]⟩⟩
    | _ => exact h1.elim⟩
theorem de_or (ha : DE X G W C a ga) (hb : DE X G W C (.BoolOp .Or (b :: rest) pos) gb) : DE X G W C (.BoolOp .Or (a :: b :: rest) pos) (fun env => (ga env).bind fun x e => match x with | .bl false => gb e | .bl true => .ok (.bl true) e | _ => .fail) :=
  PE_imp (pe_or ha hb) fun σ H Q ⟨F, env, rp, h⟩ => ⟨F, env, rp, pst_bind h fun da e1 x H1 F1 g1 r1 h1 => by
    cases da with
    | bl k =>
      have z := r1.2
      simp only [Den] at z
      cases k with
      | true => exact ⟨true, z, h1 _ H1 F1 (.refl F1) ⟨r1.1, by simp [Den]⟩⟩
      | false => exact ⟨false, z, ⟨F1, e1, r1.1, h1⟩⟩
    | _ => exact h1.elim⟩
theorem de_not (ha : DE X G W C a ga) : DE X G W C (.UnaryOp .Not a pos) (fun env => (ga env).bind fun x e => match x with | .bl k => .ok (.bl (!k)) e | _ => .fail) :=
  PE_imp (pe_not ha) fun σ H Q ⟨F, env, rp, h⟩ => ⟨F, env, rp, pst_bind h fun da e1 x H1 F1 g1 r1 h1 => by
    cases da with
    | bl k =>
      have z := r1.2
      simp only [Den] at z
      exact ⟨k, z, h1 _ H1 F1 (.refl F1) ⟨r1.1, by simp [Den]⟩⟩
    | _ => exact h1.elim⟩
theorem de_if {c : Expr} (hc : DT X G W C c tA) (ha : DE X G W C a ga) (hb : DE X G W C b gb) : DE X G W C (.IfExp c a b pos) (fun env => (tA env).bind fun c e => if c = true then ga e else gb e) :=
  PE_imp (pe_ifExp hc ha hb) fun σ H Q ⟨F, env, rp, h⟩ => ⟨F, env, rp, pst_bind h fun c e1 c' H1 F1 g1 r1 h1 => by
    obtain ⟨r1, rfl⟩ := r1
    cases c' with
    | true => exact ⟨F1, e1, r1, h1⟩
    | false => exact ⟨F1, e1, r1, h1⟩⟩
theorem do_if {c : Expr} {ga gb : Env → Out T} (hc : DT X G W C c tA) (ha : DO X G W C a ga) (hb : DO X G W C b gb) : DO X G W C (.IfExp c a b pos) (fun env => (tA env).bind fun c e => if c = true then ga e else gb e) :=
  PE_imp (pe_ifExp hc ha hb) fun σ H Q ⟨F, env, rp, h⟩ => ⟨F, env, rp, pst_bind h fun c e1 c' H1 F1 g1 r1 h1 => by
    obtain ⟨r1, rfl⟩ := r1
    cases c' with
    | true => exact ⟨F1, e1, r1, h1⟩
    | false => exact ⟨F1, e1, r1, h1⟩⟩
/-! ### rows of values -/
variable {es : List Expr} {gs : Env → Out (List D)}
theorem da_nil : DA X G W C [] (fun env => .ok [] env) := PA_imp pa_nil fun σ H Q ⟨F, env, rp, h⟩ => h [] H F (.refl F) ⟨rp, by simp [DenL]⟩
theorem da_cons (he : DE X G W C e ga) (hs : DA X G W C es gs) (hp : starEach (e :: es) X.env = (false, eval e X.env) :: starEach es X.env := by rfl) : DA X G W C (e :: es) (fun env => (ga env).bind fun x e => (gs e).bind fun xs e => .ok (x :: xs) e) :=
  PA_imp (pa_cons he hs hp) fun σ H Q ⟨F, env, rp, h⟩ => ⟨F, env, rp, pst_bind h fun da e1 x H1 F1 g1 r1 h1 => ⟨F1, e1, r1.1, pst_bind h1 fun ds e2 xs H2 F2 g2 r2 h2 =>
    h2 _ H2 F2 (.refl F2) ⟨r2.1, by simp only [DenL]; exact ⟨x, xs, rfl, r1.2.gr g2, r2.2⟩⟩⟩⟩
def small {α : Type} (xs : List α) : Bool := decide (xs.length ≤ sizeLine)
theorem DenL.len {F : Hp} : ∀ {ds : List D} {vs : List V}, DenL G F ds vs → vs.length = ds.length
  | [], vs, h => by simp only [DenL] at h; rw [h]; rfl
  | d :: ds, vs, h => by
    simp only [DenL] at h
    obtain ⟨v, r, rfl, _, h2⟩ := h
    simp [DenL.len h2]
theorem de_tup {x1} (hs : DA X G W C es gs) : DE X G W C (.Tuple es x1 pos) (fun env => (gs env).bind fun ds e => if small ds = true then .ok (.tup ds) e else .fail) :=
  PE_imp (pe_tup hs) fun σ H Q ⟨F, env, rp, h⟩ => ⟨F, env, rp, pst_bind h fun ds e1 xs H1 F1 g1 r1 h1 => by
    by_cases z : small ds = true
    · rw [if_pos z] at h1
      refine ⟨by rw [r1.2.len]; exact of_decide_eq_true z, fun p hp => ?_⟩
      have l : Lay F1 H1 (upd F1 p (.tup xs)) (upd H1 p (.tup xs)) := Lay.new r1.1.sub hp
      exact h1 _ _ _ l.gr ⟨r1.1.lay l, by simp only [Den]; exact ⟨p, xs, rfl, upd_same, r1.2.gr l.gr⟩⟩
    · rw [if_neg z] at h1
      exact h1.elim⟩
theorem do_lst (hs : DA X G W C es gs) : DO X G W C (.List es pos) (fun env => (gs env).bind fun ds e => if small ds = true then .ok (.lst ds) e else .fail) :=
  PE_imp (pe_lst hs) fun σ H Q ⟨F, env, rp, h⟩ => ⟨F, env, rp, pst_bind h fun ds e1 xs H1 F1 g1 r1 h1 => by
    by_cases z : small ds = true
    · rw [if_pos z] at h1
      refine ⟨by rw [r1.2.len]; exact of_decide_eq_true z, fun p hp => ?_⟩
      refine RepV.new (F0 := F1) r1.1 h1 p _ hp ?_
      simp only [Own]
      refine ⟨p, xs, rfl, rfl, ?_, upd_same, r1.2⟩
      cases e : F1 p with
      | none => rfl
      | some u => rw [r1.1.sub p u e] at hp; cases hp
    · rw [if_neg z] at h1
      exact h1.elim⟩
/-! ### calls of what is built in -/
theorem de_callB {x : Str} {p : Pos} {id : String} {r : List V → Hp → VK → Prop} {f : List D → Option D} (hc : CallR X (.builtin id) r) (hd : CallD G r f) (hg : Gl X x) (hm : X.mg x = none) (hv : bootBuiltins x = some (.builtin id)) (ha : DA X G W C (e :: es) gs) (hn : x ≠ "__name__" := by decide) (hdb : (x == ("__debug__" : Str)) = false := by decide)
    (he : starEach (e :: es) X.env = (false, eval e X.env) :: starEach es X.env := by rfl) (hpl : (backTo pos (starEach es X.env)).any (·.1) = false := by rfl) : DE X G W C (.Call (.Name x p) (e :: es) [] pos) (fun env => (gs env).bind fun ds e => lft (f ds) e) :=
  PE_imp (pe_callB hc hg hm hv ha hn hdb he hpl) fun σ H Q ⟨F, env, rp, h⟩ => ⟨F, env, rp, pst_bind h fun ds e1 xs H1 F1 g1 r1 h1 => by
    cases e : f ds with
    | none => rw [e] at h1; exact h1.elim
    | some d =>
      rw [e] at h1
      exact hd F1 H1 ds d xs Q r1.1.subT r1.2 e fun v F' H' l dv => h1 v H' F' l.gr ⟨r1.1.lay l, dv⟩⟩
theorem de_callTy {x : Str} {p : Pos} {ty : String} {r : List V → Hp → VK → Prop} {f : List D → Option D} (hc : CallR X (.type ty) r) (hd : CallD G r f) (hg : Gl X x) (hm : X.mg x = none) (hv : bootBuiltins x = some (.type ty)) (ha : DA X G W C (e :: es) gs) (hn : x ≠ "__name__" := by decide) (hdb : (x == ("__debug__" : Str)) = false := by decide)
    (he : starEach (e :: es) X.env = (false, eval e X.env) :: starEach es X.env := by rfl) (hpl : (backTo pos (starEach es X.env)).any (·.1) = false := by rfl) : DE X G W C (.Call (.Name x p) (e :: es) [] pos) (fun env => (gs env).bind fun ds e => lft (f ds) e) :=
  PE_imp (pe_callTy hc hg hm hv ha hn hdb he hpl) fun σ H Q ⟨F, env, rp, h⟩ => ⟨F, env, rp, pst_bind h fun ds e1 xs H1 F1 g1 r1 h1 => by
    cases e : f ds with
    | none => rw [e] at h1; exact h1.elim
    | some d =>
      rw [e] at h1
      exact hd F1 H1 ds d xs Q r1.1.subT r1.2 e fun v F' H' l dv => h1 v H' F' l.gr ⟨r1.1.lay l, dv⟩⟩
theorem do_callTy {x : Str} {p : Pos} {ty : String} {r : List V → Hp → VK → Prop} {f : List D → Option T} (hc : CallR X (.type ty) r) (hd : CallO G r f) (hg : Gl X x) (hm : X.mg x = none) (hv : bootBuiltins x = some (.type ty)) (ha : DA X G W C (e :: es) gs) (hn : x ≠ "__name__" := by decide) (hdb : (x == ("__debug__" : Str)) = false := by decide)
    (he : starEach (e :: es) X.env = (false, eval e X.env) :: starEach es X.env := by rfl) (hpl : (backTo pos (starEach es X.env)).any (·.1) = false := by rfl) : DO X G W C (.Call (.Name x p) (e :: es) [] pos) (fun env => (gs env).bind fun ds e => lft (f ds) e) :=
  PE_imp (pe_callTy hc hg hm hv ha hn hdb he hpl) fun σ H Q ⟨F, env, rp, h⟩ => ⟨F, env, rp, pst_bind h fun ds e1 xs H1 F1 g1 r1 h1 => by
    cases e : f ds with
    | none => rw [e] at h1; exact h1.elim
    | some d =>
      rw [e] at h1
      exact hd F1 H1 ds d xs Q r1.1.subT r1.2 e (RepV.new (F0 := F1) r1.1 h1)⟩
theorem do_callB {x : Str} {p : Pos} {id : String} {r : List V → Hp → VK → Prop} {f : List D → Option T} (hc : CallR X (.builtin id) r) (hd : CallO G r f) (hg : Gl X x) (hm : X.mg x = none) (hv : bootBuiltins x = some (.builtin id)) (ha : DA X G W C (e :: es) gs) (hn : x ≠ "__name__" := by decide) (hdb : (x == ("__debug__" : Str)) = false := by decide)
    (he : starEach (e :: es) X.env = (false, eval e X.env) :: starEach es X.env := by rfl) (hpl : (backTo pos (starEach es X.env)).any (·.1) = false := by rfl) : DO X G W C (.Call (.Name x p) (e :: es) [] pos) (fun env => (gs env).bind fun ds e => lft (f ds) e) :=
  PE_imp (pe_callB hc hg hm hv ha hn hdb he hpl) fun σ H Q ⟨F, env, rp, h⟩ => ⟨F, env, rp, pst_bind h fun ds e1 xs H1 F1 g1 r1 h1 => by
    cases e : f ds with
    | none => rw [e] at h1; exact h1.elim
    | some d =>
      rw [e] at h1
      exact hd F1 H1 ds d xs Q r1.1.subT r1.2 e (RepV.new (F0 := F1) r1.1 h1)⟩

/-! ### statements -/
variable {st : Stmt} {sts : List Stmt} {g1 g2 : Env → Out Fl} {go : Env → Out T}
theorem dss_nil : DSs X G W C [] (fun env => .ok .nx env) := PSs_imp pss_nil fun N σ H ⟨F, env, rp, h⟩ => h σ H F (.refl F) rp
theorem dss_cons (h1 : DS X G W C st g1) (h2 : DSs X G W C sts g2) : DSs X G W C (st :: sts) (fun env => seqF (g1 env) g2) :=
  PSs_imp (pss_cons h1 h2) fun N σ H ⟨F, env, rp, h⟩ => ⟨F, env, rp, by
    have h : pS G W C N F (seqF (g1 env) g2) := h
    cases e : g1 env with
    | fail => rw [e] at h; exact h
    | exc x e' => rw [e] at h; exact h
    | ok a e' =>
      rw [e] at h
      cases a with
      | nx => exact fun σ' H' F' g r => ⟨F', e', r, pS.gr (show pS G W C N F (g2 e') from h) g⟩
      | bk => exact h
      | ct => exact h
      | rt t => exact h⟩
theorem dss_one (h1 : DS X G W C st g1) : DSs X G W C [st] g1 := pss_one h1
theorem ds_pass : DS X G W C (.Pass pos) (fun env => .ok .nx env) := PS_imp ps_pass fun N σ H ⟨F, env, rp, h⟩ => h σ H F (.refl F) rp
theorem ds_break : DS X G W C (.Break pos) (fun env => .ok .bk env) := PS_imp ps_break fun N σ H ⟨F, env, rp, h⟩ => h σ H F (.refl F) rp
theorem ds_continue : DS X G W C (.Continue pos) (fun env => .ok .ct env) := PS_imp ps_continue fun N σ H ⟨F, env, rp, h⟩ => h σ H F (.refl F) rp
theorem ds_ret (he : DO X G W C e go) : DS X G W C (.Return (some e) pos) (fun env => (go env).bind fun t e => .ok (.rt t) e) :=
  PS_imp (ps_ret he) fun N σ H ⟨F, env, rp, h⟩ => ⟨F, env, rp, pS_bind h fun t e v H1 F1 g1 r1 h1 => h1 v σ H1 F1 (.refl F1) r1⟩
theorem ds_retN : DS X G W C (.Return none pos) (fun env => .ok (.rt (.fz .non)) env) := PS_imp ps_retN fun N σ H ⟨F, env, rp, h⟩ => h .non σ H F (.refl F) (rp.fz (by simp [Den]))
theorem ds_expr (he : DE X G W C e ga) (hs : swapsWith e none pos.line X.env = pure false := by rfl) : DS X G W C (.Expr e pos) (fun env => (ga env).bind fun _ e => .ok .nx e) :=
  PS_imp (ps_expr he hs) fun N σ H ⟨F, env, rp, h⟩ => ⟨F, env, rp, pS_bind h fun t e v H1 F1 g1 r1 h1 => h1 σ H1 F1 (.refl F1) r1.1⟩
theorem ds_if {c : Expr} {ss tt : List Stmt} (hc : DT X G W C c tA) (ha : DSs X G W C ss g1) (hb : DSs X G W C tt g2) : DS X G W C (.If c ss tt pos) (fun env => (tA env).bind fun c e => if c = true then g1 e else g2 e) :=
  PS_imp (ps_if hc ha hb) fun N σ H ⟨F, env, rp, h⟩ => ⟨F, env, rp, pS_bind h fun c e1 c' H1 F1 g1 r1 h1 => by
    obtain ⟨r1, rfl⟩ := r1
    cases c' with
    | true => exact ⟨F1, e1, r1, h1⟩
    | false => exact ⟨F1, e1, r1, h1⟩⟩
/-- name = value, the slot free to be stored: pv names the slots that stay -/
def stv (i : Nat) (t : T) (e : Env) : Out Fl := .ok .nx (e.set i (some (Ent.own t)))
theorem ds_set {i : Nat} {x : Str} {pos' : Pos} (hp : ∀ w, (i, w) ∉ C.pv) (hN : X.N.Nodup) (hi : X.N[i]? = some x) (hx : Loc X.env.scope x) (he : DO X G W C e go) (hs : swapsWith e (some (.Name x pos')) pos.line X.env = pure false := by rfl) (hf : X.fn x = true ∨ X.env.scope.names.lookup x = some .local := by first | exact .inl rfl | exact .inr rfl | assumption) :
    DS X G W C (.Assign [.Name x pos'] e pos) (fun env => (go env).bind (stv i)) :=
  PS_imp (ps_set hN hi hx he hs hf) fun N σ H ⟨F, env, rp, h⟩ => ⟨F, env, rp, pS_bind h fun t e v H1 F1 g1 r1 h1 => h1 (σ.set i (some v)) H1 F1 (.refl F1) (RepV.set r1 hp)⟩
/-- slots frozen for good, where one wishes -/
def frzs (is : List Nat) (env : Env) : Env :=
  match is with
  | [] => env
  | i :: r => frzs r (match env[i]? with
    | some (some (Ent.own t)) => env.set i (some (Ent.own (.fz (er t))))
    | _ => env)
theorem Rep.frzs {σ : L2.St} : ∀ (is : List Nat) {F H : Hp} {env : Env}, Rep G C F H σ env → ∃ F', Gr F F' ∧ Rep G C F' H σ (DL.frzs is env)
  | [], F, H, env, r => ⟨F, .refl F, r⟩
  | i :: is, F, H, env, r => by
    unfold DL.frzs
    split
    · rename_i t e
      obtain ⟨F1, g1, r1⟩ := Rep.frz r e
      obtain ⟨F2, g2, r2⟩ := Rep.frzs is r1
      exact ⟨F2, g1.trans g2, r2⟩
    · exact Rep.frzs is r
theorem dss_frz (is : List Nat) (h : DSs X G W C sts g1) : DSs X G W C sts (fun env => g1 (frzs is env)) := PSs_imp h fun N σ H ⟨F, env, rp, q⟩ => by
  obtain ⟨F1, g1', r1⟩ := rp.frzs is
  exact ⟨F1, _, r1, pS.gr q g1'⟩
end
end DL

end
section
namespace DL
open PySem PySem.Spec PyProof.Rows L2
variable [TB]

/-! ### rows of attributes: each with the classes that may have it there -/
abbrev Pth := List (List Nat × Str)
def getP : Pth → T → Option T
  | [], t => some t
  | (cs, f) :: r, .ins c fs => if c ∈ cs then (fs.lookup f).bind (getP r) else none
  | (cs, f) :: r, .fz (.ins c ds) => if c ∈ cs then (ds.lookup f).bind fun d => getP r (.fz d) else none
  | _ :: _, _ => none
/-- put f t fs: in its place, or at the end -/
def putT (f : Str) (t : T) : List (Str × T) → List (Str × T)
  | [] => [(f, t)]
  | (g, u) :: r => if g = f then (g, t) :: r else (g, u) :: putT f t r
def setP : Pth → T → T → T
  | [], t, _ => t
  | (_, f) :: r, t, .ins c fs => .ins c (match fs.lookup f with
    | some u => putT f (setP r t u) fs
    | none => fs)
  | _ :: _, _, t0 => t0
/-- all objects on the way are one's own -/
def ownP : Pth → T → Bool
  | [], _ => true
  | (_, f) :: r, .ins c fs => match fs.lookup f with
    | some u => ownP r u
    | none => false
  | _ :: _, _ => false
def rdp (i : Nat) (p : Pth) (env : Env) : Option T :=
  match env[i]? with
  | some (some (Ent.own t)) => getP p t
  | some (some (Ent.bor t)) => getP p t
  | _ => none
/-- what the text says of an attribute of some classes -/
def AOk (G : Tx) (cs : List Nat) (f : Str) : Prop := ∀ c ∈ cs, ∀ C, G.ct c = some C → Cls G.K C ∧ NoAttr G.K C f
def POk (G : Tx) (p : Pth) : Prop := ∀ q ∈ p, AOk G q.1 q.2
/-- from a value by attributes to a value -/
def Rch (G : Tx) (H : Hp) : V → Pth → V → Prop
  | v, [], w => w = v
  | v, (cs, f) :: r, w => ∃ a C dx fs u, v = .ref a ∧ H a = some (.ins C dx fs) ∧ Cls G.K C ∧ NoAttr G.K C f ∧ fs.lookup f = some u ∧ Rch G H u r w
section
variable {G : Tx} {F H F' H' : Hp}
theorem DenF.look : ∀ {ds : List (Str × D)} {vs : List (Str × V)} {f : Str} {d : D}, DenF G F ds vs → ds.lookup f = some d → ∃ v, vs.lookup f = some v ∧ Den G F d v
  | [], vs, f, d, h, e => by simp at e
  | (k, d0) :: r, vs, f, d, h, e => by
    simp only [DenF] at h
    obtain ⟨v, q, rfl, h1, h2⟩ := h
    rw [List.lookup_cons] at e ⊢
    split at e
    · cases e; exact ⟨v, rfl, h1⟩
    · exact DenF.look h2 e
theorem OwnF.look : ∀ {fs : List (Str × T)} {vs : List (Str × V)} {A : List Addr} {f : Str} {t : T}, OwnF G F H fs vs A → fs.lookup f = some t →
    ∃ w B, vs.lookup f = some w ∧ Own G F H t w B ∧ (∀ a ∈ B, a ∈ A) ∧ (A.Nodup → B.Nodup) ∧
      ∀ {F' H' : Hp} {t' : T} {B' A1 : List Addr}, Step A1 F H F' H' → (∀ b ∈ A1, b ∈ B) → A.Nodup → Own G F' H' t' w B' → B'.Nodup → (∀ a ∈ B', a ∈ B ∨ a ∉ A) →
        ∃ A', OwnF G F' H' (putT f t' fs) vs A' ∧ A'.Nodup ∧ ∀ a ∈ A', a ∈ B' ∨ (a ∈ A ∧ a ∉ B)
  | [], vs, A, f, t, h, e => by simp at e
  | (k, t0) :: r, vs, A, f, t, h, e => by
    simp only [OwnF] at h
    obtain ⟨v, q, P, S, rfl, rfl, h1, h2⟩ := h
    by_cases hk : k = f
    · subst hk
      have e' : t0 = t := by
        rw [List.lookup_cons] at e
        simp at e
        exact e
      subst e'
      refine ⟨v, P, by simp, h1, fun a ha => by simp [ha], fun nd => (List.nodup_append.mp nd).1, fun {F' H' t' B' A1} s hb nd o nd' hB => ?_⟩
      obtain ⟨ndP, ndS, dj⟩ := List.nodup_append.mp nd
      refine ⟨B' ++ S, ?_, ?_, fun a ha => ?_⟩
      · simp only [putT, if_pos, OwnF]
        exact ⟨v, q, B', S, rfl, rfl, o, h2.step s fun a ha z => dj a (hb a z) a ha rfl⟩
      · refine List.nodup_append.mpr ⟨nd', ndS, fun a ha b hb' z => ?_⟩
        subst z
        rcases hB a ha with w | w
        · exact dj a w a hb' rfl
        · exact w (by simp [hb'])
      · rcases List.mem_append.mp ha with ha | ha
        · exact .inl ha
        · exact .inr ⟨by simp [ha], fun z => dj a z a ha rfl⟩
    · have e' : r.lookup f = some t := by
        rw [List.lookup_cons] at e
        have : (f == k) = false := by simp; exact fun z => hk z.symm
        rw [this] at e
        exact e
      obtain ⟨w, B, l1, o1, s1, n1, k1⟩ := OwnF.look h2 e'
      refine ⟨w, B, ?_, o1, fun a ha => by simp [s1 a ha], fun nd => n1 (List.nodup_append.mp nd).2.1, fun {F' H' t' B' A1} s hb nd o nd' hB => ?_⟩
      · rw [List.lookup_cons]
        have : (f == k) = false := by simp; exact fun z => hk z.symm
        rw [this]
        exact l1
      · obtain ⟨ndP, ndS, dj⟩ := List.nodup_append.mp nd
        obtain ⟨A', o2, n2, i2⟩ := k1 s hb ndS o nd' fun a ha => by
          rcases hB a ha with w | w
          · exact .inl w
          · exact .inr fun z => w (by simp [z])
        refine ⟨P ++ A', ?_, ?_, fun a ha => ?_⟩
        · simp only [putT, if_neg hk, OwnF]
          exact ⟨v, q, P, A', rfl, rfl, h1.step s fun a ha z => dj a ha a (s1 a (hb a z)) rfl, o2⟩
        · refine List.nodup_append.mpr ⟨ndP, n2, fun a ha b hb' z => ?_⟩
          subst z
          rcases i2 a hb' with w | ⟨w, _⟩
          · rcases hB a w with w | w
            · exact dj a ha a (s1 a w) rfl
            · exact w (by simp [ha])
          · exact dj a ha a w rfl
        · rcases List.mem_append.mp ha with ha | ha
          · exact .inr ⟨by simp [ha], fun z => dj a ha a (s1 a z) rfl⟩
          · rcases i2 a ha with w | ⟨w, w'⟩
            · exact .inl w
            · exact .inr ⟨by simp [w], w'⟩
/-- the way is gone; what is found -/
theorem Den.reach (s : Sub F H) : ∀ {p : Pth} {d : D} {v : V} {t : T}, POk G p → Den G F d v → getP p (.fz d) = some t → ∃ d', t = .fz d' ∧ ∃ w, Rch G H v p w ∧ Den G F d' w
  | [], d, v, t, ok, h, e => by
    simp only [getP, Option.some.injEq] at e
    exact ⟨d, e.symm, v, rfl, h⟩
  | (cs, f) :: r, d, v, t, ok, h, e => by
    cases d with
    | ins c ds =>
      simp only [getP] at e
      split at e
      · rename_i hc
        simp only [Den] at h
        obtain ⟨a, C, dx, vs, rfl, h1, h2, h3⟩ := h
        cases l : ds.lookup f with
        | none => rw [l] at e; cases e
        | some d1 =>
          rw [l] at e
          obtain ⟨u, hu, du⟩ := h3.look l
          obtain ⟨d', e1, w, r1, dw⟩ := Den.reach s (fun q hq => ok q (List.mem_cons_of_mem _ hq)) du e
          obtain ⟨k1, k2⟩ := ok (cs, f) List.mem_cons_self c hc C h1
          exact ⟨d', e1, w, ⟨a, C, dx, vs, u, rfl, s a _ h2, k1, k2, hu, r1⟩, dw⟩
      · cases e
    | _ => simp [getP] at e
theorem Own.reach (s : Sub F H) : ∀ {p : Pth} {t0 : T} {v : V} {A : List Addr} {t : T}, POk G p → Own G F H t0 v A → getP p t0 = some t → ∃ w B, Rch G H v p w ∧ Own G F H t w B
  | [], t0, v, A, t, ok, h, e => by
    simp only [getP, Option.some.injEq] at e
    subst e
    exact ⟨v, A, rfl, h⟩
  | (cs, f) :: r, t0, v, A, t, ok, h, e => by
    cases t0 with
    | ins c fs =>
      simp only [getP] at e
      split at e
      · rename_i hc
        simp only [Own] at h
        obtain ⟨a, C, dx, vs, Bs, rfl, rfl, h1, hf, h2, h3⟩ := h
        cases l : fs.lookup f with
        | none => rw [l] at e; cases e
        | some t1 =>
          rw [l] at e
          obtain ⟨u, B, hu, ou, _⟩ := h3.look l
          obtain ⟨w, B2, r1, ow⟩ := Own.reach s (fun q hq => ok q (List.mem_cons_of_mem _ hq)) ou e
          obtain ⟨k1, k2⟩ := ok (cs, f) List.mem_cons_self c hc C h1
          exact ⟨w, B2, ⟨a, C, dx, vs, u, rfl, h2, k1, k2, hu, r1⟩, ow⟩
      · cases e
    | fz d =>
      simp only [Own] at h
      obtain ⟨d', rfl, w, r1, dw⟩ := h.2.reach s ok e
      exact ⟨w, [], r1, by simp only [Own]; exact ⟨trivial, dw⟩⟩
    | _ => simp [getP] at e
/-- .. and changed there -/
theorem Own.focus : ∀ {p : Pth} {t0 : T} {v : V} {A : List Addr} {t : T}, POk G p → Own G F H t0 v A → getP p t0 = some t → ownP p t0 = true →
    ∃ w B, Rch G H v p w ∧ Own G F H t w B ∧ (∀ a ∈ B, a ∈ A) ∧ (A.Nodup → B.Nodup) ∧
      ∀ {F' H' : Hp} {t' : T} {B' A1 : List Addr}, Step A1 F H F' H' → (∀ b ∈ A1, b ∈ B) → A.Nodup → Own G F' H' t' w B' → B'.Nodup → (∀ a ∈ B', a ∈ B ∨ a ∉ A) →
        ∃ A', Own G F' H' (setP p t' t0) v A' ∧ A'.Nodup ∧ ∀ a ∈ A', a ∈ B' ∨ (a ∈ A ∧ a ∉ B)
  | [], t0, v, A, t, ok, h, e, _ => by
    simp only [getP, Option.some.injEq] at e
    subst e
    exact ⟨v, A, rfl, h, fun _ z => z, fun z => z, fun {F' H' t' B' A1} s hb nd o nd' hB => ⟨B', o, nd', fun a ha => .inl ha⟩⟩
  | (cs, f) :: r, t0, v, A, t, ok, h, e, eo => by
    cases t0 with
    | ins c fs =>
      simp only [getP] at e
      split at e
      · rename_i hc
        simp only [Own] at h
        obtain ⟨a, C, dx, vs, Bs, rfl, rfl, h1, hf, h2, h3⟩ := h
        cases l : fs.lookup f with
        | none => rw [l] at e; cases e
        | some t1 =>
          rw [l] at e
          simp only [ownP, l] at eo
          obtain ⟨u, B, hu, ou, s1, n1, k1⟩ := h3.look l
          obtain ⟨w, B2, r1, ow, s2, n2, k2⟩ := Own.focus (fun q hq => ok q (List.mem_cons_of_mem _ hq)) ou e eo
          obtain ⟨c1, c2⟩ := ok (cs, f) List.mem_cons_self c hc C h1
          refine ⟨w, B2, ⟨a, C, dx, vs, u, rfl, h2, c1, c2, hu, r1⟩, ow, fun b hb => by simp [s1 b (s2 b hb)], fun nd => n2 (n1 (List.nodup_cons.mp nd).2), fun {F' H' t' B' A1} s hb nd o nd' hB => ?_⟩
          obtain ⟨na, nB⟩ := List.nodup_cons.mp nd
          obtain ⟨A', o2, nd2, i2⟩ := k2 s hb (n1 nB) o nd' fun b hb' => by
            rcases hB b hb' with w | w
            · exact .inl w
            · exact .inr fun z => w (by simp [s1 b z])
          have i3' : ∀ b ∈ A', b ∈ B ∨ b ∉ a :: Bs := fun b hb' => by
            rcases i2 b hb' with w | ⟨w, _⟩
            · rcases hB b w with w | w
              · exact .inl (s2 b w)
              · exact .inr w
            · exact .inl w
          have i2' : ∀ b ∈ A', b ∈ B ∨ b ∉ Bs := fun b hb' => by
            rcases i3' b hb' with w | w
            · exact .inl w
            · exact .inr fun z => w (by simp [z])
          obtain ⟨A3, o3, nd3, i3⟩ := k1 s (fun b z => s2 b (hb b z)) nB o2 nd2 i2'
          obtain ⟨f', h'⟩ := s.own hf h2 fun z => na (s1 a (s2 a (hb a z)))
          refine ⟨a :: A3, ?_, List.nodup_cons.mpr ⟨fun z => ?_, nd3⟩, fun b hb' => ?_⟩
          · simp only [setP, l, Own]
            exact ⟨a, C, dx, vs, A3, rfl, rfl, h1, f', h', o3⟩
          · rcases i3 a z with w | ⟨w, _⟩
            · rcases i3' a w with w | w
              · exact na (s1 a w)
              · exact w (by simp)
            · exact na w
          · rcases List.mem_cons.mp hb' with rfl | hb'
            · exact .inr ⟨by simp, fun z => na (s1 b (s2 b z))⟩
            · rcases i3 b hb' with w | ⟨w, w'⟩
              · rcases i2 b w with w | ⟨w, w'⟩
                · exact .inl w
                · exact .inr ⟨by simp [s1 b w], w'⟩
              · exact .inr ⟨by simp [w], fun z => w' (s2 b z)⟩
      · cases e
    | _ => simp [ownP] at eo
theorem Rch.step {B : List Addr} (s : Step B F H F' H') (hB : ∀ a C dx fs, H a = some (.ins C dx fs) → a ∈ B → False) : ∀ {p : Pth} {v w : V}, Rch G H v p w → Rch G H' v p w
  | [], v, w, h => h
  | (cs, f) :: r, v, w, h => by
    obtain ⟨a, C, dx, fs, u, e, h1, c1, c2, l, k⟩ := h
    refine ⟨a, C, dx, fs, u, e, ?_, c1, c2, l, Rch.step s hB k⟩
    rcases s.keep a _ h1 (fun z => hB a C dx fs h1 z) with q | ⟨_, o', q, w⟩ | ⟨_, _, z, _⟩
    · exact q
    · rw [w.eq (by rintro (⟨_, h⟩ | ⟨_, h⟩) <;> cases h)] at q
      exact q
    · cases z
end
/-- the reading of a place -/
def dP (G : Tx) (C : DCtx) (i : Nat) (p : Pth) : TE := fun σ H Q => ∃ v w, σ[i]? = some (some v) ∧ Rch G H v p w ∧ Q w H
def DP (X : Cx) (G : Tx) (e : Expr) (i : Nat) (p : Pth) : Prop := PE X e (fun σ H Q => ∃ v w, σ[i]? = some (some v) ∧ Rch G H v p w ∧ Q w H)
theorem Rch.snoc {G : Tx} {H : Hp} {cs : List Nat} {f : Str} : ∀ {p : Pth} {v w : V}, Rch G H v (p ++ [(cs, f)]) w → ∃ u, Rch G H v p u ∧ ∃ a C dx fs, u = .ref a ∧ H a = some (.ins C dx fs) ∧ Cls G.K C ∧ NoAttr G.K C f ∧ fs.lookup f = some w
  | [], v, w, h => by
    obtain ⟨a, C, dx, fs, u, e, h1, c1, c2, l, rfl⟩ := h
    exact ⟨v, rfl, a, C, dx, fs, e, h1, c1, c2, l⟩
  | (cs', f') :: r, v, w, h => by
    obtain ⟨a, C, dx, fs, u, e, h1, c1, c2, l, k⟩ := h
    obtain ⟨x, k1, k2⟩ := Rch.snoc k
    exact ⟨x, ⟨a, C, dx, fs, u, e, h1, c1, c2, l, k1⟩, k2⟩
section
variable {X : Cx} {G : Tx} {W : WX} {C : DCtx} {a b e : Expr} {ga gb : Env → Out D} {pos : Pos} {i : Nat} {p : Pth}
theorem dp_v (i : Nat) {x : Str} {pos : Pos} (hN : X.N[i]? = some x := by rfl) (hv : Vis X.env.scope x := by first | exact Or.inl rfl | exact Or.inr (Or.inl rfl) | exact Or.inr (Or.inr rfl)) (hd : (x == ("__debug__" : Str)) = false := by decide)
    (hcd : (x == ("__classdict__" : Str)) = false := by decide) : DP X G (.Name x pos) i [] := PE_imp (pe_var hN hv hd hcd) fun σ H Q ⟨v, w, h1, h2, q⟩ => by
  obtain rfl : w = v := h2
  exact ⟨w, h1, q⟩
theorem dp_a (cs : List Nat) {f : Str} (hK : X.K = G.K) (h : DP X G e i p) (hb : attributeBase e f X.env (eval e X.env) = eval e X.env := by rfl) : DP X G (.Attribute e f pos) i (p ++ [(cs, f)]) :=
  PE_imp (pe_fld h hb) fun σ H Q ⟨v, w, h1, h2, q⟩ => by
    obtain ⟨u, r1, a, C, dx, fs, e1, e2, c1, c2, l⟩ := h2.snoc
    rw [hK]
    exact ⟨v, u, h1, r1, a, C, dx, fs, w, e1, e2, c1, c2, l, q⟩
/-- what is found at a place, either way -/
theorem Rep.place {F H : Hp} {σ : L2.St} {env : Env} {t : T} (r : Rep G C F H σ env) (ok : POk G p) (e : rdp i p env = some t) : ∃ v w B, σ[i]? = some (some v) ∧ Rch G H v p w ∧ Own G F H t w B := by
  unfold rdp at e
  split at e
  · rename_i t0 e0
    obtain ⟨v, B, h1, h2⟩ := r.at_ (.inl e0)
    obtain ⟨w, B2, r1, o⟩ := h2.reach r.sub ok e
    exact ⟨v, w, B2, h1, r1, o⟩
  · rename_i t0 e0
    obtain ⟨v, B, h1, h2⟩ := r.at_ (.inr e0)
    obtain ⟨w, B2, r1, o⟩ := h2.reach r.sub ok e
    exact ⟨v, w, B2, h1, r1, o⟩
  · cases e
/-- a place that holds what is frozen -/
def rdf (i : Nat) (p : Pth) (env : Env) : Out D :=
  match rdp i p env with
  | some (.fz d) => .ok d env
  | _ => .fail
theorem de_p (ok : POk G p) (h : DP X G e i p) : DE X G W C e (rdf i p) := PE_imp h fun σ H Q ⟨F, env, r, q⟩ => by
  unfold rdf at q
  split at q
  · rename_i d e
    obtain ⟨v, w, B, h1, h2, h3⟩ := r.place ok e
    simp only [Own] at h3
    exact ⟨v, w, h1, h2, q w H F (.refl F) ⟨r, h3.2⟩⟩
  · exact q.elim
/-- an attribute of what is frozen -/
def attD (cs : List Nat) (f : Str) : D → Option D
  | .ins c ds => if c ∈ cs then ds.lookup f else none
  | _ => none
theorem de_a (cs : List Nat) {f : Str} (hK : X.K = G.K) (ok : AOk G cs f) (he : DE X G W C e ga) (hb : attributeBase e f X.env (eval e X.env) = eval e X.env := by rfl) : DE X G W C (.Attribute e f pos) (fun env => (ga env).bind fun d e => lft (attD cs f d) e) :=
  PE_imp (pe_fld he hb) fun σ H Q ⟨F, env, r, q⟩ => ⟨F, env, r, pst_bind q fun d e1 x H1 F1 g1 r1 h1 => by
    cases d with
    | ins c ds =>
      simp only [attD] at h1
      split at h1
      · rename_i hc
        cases l : ds.lookup f with
        | none => rw [l] at h1; exact h1.elim
        | some d1 =>
          rw [l] at h1
          have z := r1.2
          simp only [Den] at z
          obtain ⟨a, C', dx, vs, e0, e1', e2, e3⟩ := z
          obtain ⟨u, hu, du⟩ := e3.look l
          obtain ⟨k1, k2⟩ := ok c hc C' e1'
          rw [hK]
          exact ⟨a, C', dx, vs, u, e0, r1.1.sub a _ e2, k1, k2, hu, h1 u H1 F1 (.refl F1) ⟨r1.1, du⟩⟩
      · exact h1.elim
    | _ => exact h1.elim⟩
/-- only looked at -/
def pur {α : Type} (g : Env → Out α) (env : Env) : Out α :=
  match g (lendE env) with
  | .ok a _ => .ok a env
  | .exc x _ => .exc x env
  | .fail => .fail
theorem pure_run {α β : Type} {F H : Hp} {σ : L2.St} {env : Env} {g : Env → Out α} {P : α → Hp → β → Prop} {Q : β → Hp → Prop} (r : Rep G C F H σ env)
    (h : pst (fun a F' H' _ v => Lay F H F' H' ∧ P a F' v) (exW G W C σ) Q F (pur g env)) :
    ∃ F1 env1, Rep G (pureC F H σ env) F1 H σ env1 ∧ pst (fun a F' H' e v => Rep G (pureC F H σ env) F' H' σ e ∧ P a F' v) (exW G W (pureC F H σ env) σ) Q F1 (g env1) := by
  refine ⟨F, lendE env, r.pure, ?_⟩
  unfold pur at h
  cases q : g (lendE env) with
  | fail => rw [q] at h; exact h
  | ok a e =>
    rw [q] at h
    exact fun v H' F' g1 ⟨r1, p1⟩ => h v H' F' g1 ⟨⟨by obtain ⟨fp, r1⟩ := r1; exact r1.st, r1.sub⟩, p1⟩
  | exc x e =>
    rw [q] at h
    intro cls dd H' F' g1 r1 dx
    have l : Lay F H F' H' := ⟨by obtain ⟨fp, r1⟩ := r1; exact r1.st, r1.sub⟩
    exact h cls dd H' F' g1 (r.lay l) dx
/-- an expression that looks only, as any -/
theorem de_pur (h : DE X G W C e ga) : DE X G W C e ga := h
end
end DL

end
section
namespace DL
open PySem PySem.Spec PyProof.Rows L2
variable [TB]

/-! ### what a def does with its arguments -/
inductive FO where
  | ok (r : T) (ts : List (Option T)) | exc (x : Exn) | fail
def ArgsOk (G : Tx) (F H : Hp) (n : Nat) (ts : List T) (vs : List V) (fp : Nat → List Addr) (A0 : List Addr) : Prop :=
  (∀ (i : Nat) (t : T), ts[i]? = some t → ∃ v, vs[i]? = some v ∧ Own G F H t v (fp i) ∧ (fp i).Nodup ∧ ∀ a ∈ fp i, a ∈ A0) ∧ ∀ i j : Nat, i ≠ j → i < n → j < n → ∀ a ∈ fp i, a ∉ fp j
def OutOk (G : Tx) (A0 : List Addr) (H F' H' : Hp) (r : T) (ts' : List (Option T)) (v : V) (vs : List V) : Prop :=
  ∃ (fp : Nat → List Addr) (Br : List Addr), (∀ (i : Nat) (t : T), ts'[i]? = some (some t) → ∃ w, vs[i]? = some w ∧ Own G F' H' t w (fp i) ∧ (fp i).Nodup ∧ (∀ a ∈ fp i, a ∈ A0 ∨ H a = none) ∧ ∀ a ∈ fp i, a ∉ Br) ∧
    (∀ (i j : Nat) (ti tj : T), i ≠ j → ts'[i]? = some (some ti) → ts'[j]? = some (some tj) → ∀ a ∈ fp i, a ∉ fp j) ∧ Own G F' H' r v Br ∧ Br.Nodup ∧ ∀ a ∈ Br, a ∈ A0 ∨ H a = none
def spD (G : Tx) (n : Nat) (sem : List T → FO) : Sp := fun vs H Q E => ∃ F ts A0 fp, Sub F H ∧ TbOk G F H ∧ ts.length = n ∧ vs.length = n ∧ ArgsOk G F H n ts vs fp A0 ∧
  match sem ts with
  | .ok r ts' => ∀ v F' H', Step A0 F H F' H' → Sub F' H' → OutOk G A0 H F' H' r ts' v vs → Q v H'
  | .exc x => ∀ cls dd F' H', Step A0 F H F' H' → Sub F' H' → DenX G F' cls dd x → E cls dd H'
  | .fail => False
/-- the arguments that were handed to be changed, behind the body -/
def outs (io : List Nat) (n : Nat) (e : Env) : List (Option T) := (List.range n).map fun i => if i ∈ io then (match e[i]? with
  | some (some (Ent.own t)) => some t
  | _ => none) else none
def fin (io : List Nat) (n : Nat) (o : Out Fl) : FO :=
  match o with
  | .ok .nx e => .ok (.fz .non) (outs io n e)
  | .ok (.rt t) e => .ok t (outs io n e)
  | .exc x _ => .exc x
  | _ => .fail
def startE (m : Nat) (ts : List T) : Env := ts.map (fun t => some (Ent.own t)) ++ List.replicate m none
def semOf (n m : Nat) (io : List Nat) (g : Env → Out Fl) (ts : List T) : FO := if ts.length = n then fin io n (g (startE m ts)) else .fail
theorem startE_at {m : Nat} {ts : List T} {i : Nat} {x : Ent} (e : (startE m ts)[i]? = some (some x)) : ∃ t, ts[i]? = some t ∧ x = .own t := by
  unfold startE at e
  by_cases h : i < ts.length
  · rw [List.getElem?_append_left (by simpa using h), List.getElem?_map] at e
    cases q : ts[i]? with
    | none => rw [q] at e; cases e
    | some t => rw [q] at e; cases e; exact ⟨t, rfl, rfl⟩
  · rw [List.getElem?_append_right (by simpa using h), List.getElem?_replicate] at e
    split at e <;> cases e
theorem outs_at {io : List Nat} {n : Nat} {e : Env} {i : Nat} {t : T} (h : (outs io n e)[i]? = some (some t)) : i ∈ io ∧ i < n ∧ e[i]? = some (some (Ent.own t)) := by
  unfold outs at h
  rw [List.getElem?_map] at h
  by_cases hl : i < n
  · rw [List.getElem?_range hl] at h
    simp only [Option.map_some, Option.some.injEq] at h
    split at h
    · rename_i hi
      split at h
      · rename_i t' e'
        cases h
        exact ⟨hi, hl, e'⟩
      · cases h
    · cases h
  · rw [List.getElem?_eq_none (by simpa using hl)] at h
    cases h
theorem start_at {N : List Str} {vs : List V} {i : Nat} {v : V} (h : vs[i]? = some v) : (L2.start N vs)[i]? = some (some v) := by
  unfold L2.start
  have hl : i < vs.length := (List.getElem?_eq_some_iff.mp h).1
  rw [List.getElem?_append_left (by simpa using hl), List.getElem?_map, h]
  rfl

section
variable {P : Program} {w : World} {G : Tx} {mg : Str → Option Value} {base : Heap}
/-- THE RULE: a def by its body -/
theorem fn_d {x qual : Str} {st : Stmt} {f : Addr} {fd : FuncData} {N ps : List Str} {k n m : Nat} {io : List Nat} {g : Env → Out Fl} (Fn : Fun G.K x qual st f fd) (S : FnScope N ps (defScope st)) (hn : ps.length = n) (hN : N.length = n + m)
    (hb : ∀ (cdv : Value) (A : Around) (outer : List PySem.Env) (s : Shared) (H : Hp) (E : XK) (C : DCtx), Room k (A.deeper (envOfC qual (defScope st) s.heap.objs.size f cdv)) → (∀ q ∈ C.pv, q.1 ∈ io) →
      DSs (cxOf (L2.CX P w) P w G.K mg base N qual (defScope st) f cdv A outer s H E) G (fun cls d _ H' => E cls d H') C (defBody st) g) :
    FnOk P w G.K mg base (L2.CX P w) (k + 1) f fd ps (spD G n (semOf n m io g)) := by
  refine Fn.okX S (fun vs H Q E h => ?_) (fun cdv A outer s H vs Q E hr h => ?_)
  · obtain ⟨F, ts, A0, fp, _, _, _, h2, _⟩ := h
    rw [h2, hn]
  · obtain ⟨F, ts, A0, fp, sub, tbo, h1, h2, ⟨ha, hd⟩, h⟩ := h
    have hpv : ∀ q ∈ io.filterMap (fun i => vs[i]?.map fun v => (i, v)), q.1 ∈ io ∧ vs[q.1]? = some q.2 := fun q hq => by
      obtain ⟨i, hi, e⟩ := List.mem_filterMap.mp hq
      cases e2 : vs[i]? with
      | none => rw [e2] at e; cases e
      | some v => rw [e2] at e; cases e; exact ⟨hi, e2⟩
    refine ⟨_, hb cdv A outer s H E ⟨F, H, A0, io.filterMap (fun i => vs[i]?.map fun v => (i, v)), fun _ => none⟩ hr (fun q hq => (hpv q hq).1), ?_⟩
    have r0 : RepF G ⟨F, H, A0, io.filterMap (fun i => vs[i]?.map fun v => (i, v)), fun _ => none⟩ F H (L2.start N vs) (startE m ts) fp := by
      refine ⟨.refl, sub, ?_, fun i t e => ?_, fun i v t e => (by cases e), fun i t e => ?_, fun i t e => ?_, fun i j ti tj ne ei ej => ?_, fun i v hv => ?_, tbo⟩
      · unfold L2.start startE
        simp only [List.length_append, List.length_map, List.length_replicate]
        omega
      · obtain ⟨t', e1, e2⟩ := startE_at e
        cases e2
        obtain ⟨v, h3, h4, _⟩ := ha i t e1
        exact ⟨v, start_at h3, h4⟩
      · obtain ⟨t', e1, e2⟩ := startE_at e
        cases e2
      · obtain ⟨t', e1, e2⟩ := startE_at e
        cases e2
        obtain ⟨v, h3, h4, h5, h6⟩ := ha i t e1
        exact ⟨h5, fun a z => .inl (h6 a z)⟩
      · obtain ⟨t1, e1, e2⟩ := startE_at ei
        obtain ⟨t2, e3, e4⟩ := startE_at ej
        have l1 := (List.getElem?_eq_some_iff.mp e1).1
        have l2 := (List.getElem?_eq_some_iff.mp e3).1
        exact hd i j ne (by omega) (by omega)
      · exact start_at (hpv _ hv).2
    refine ⟨F, startE m ts, ⟨fp, r0⟩, ?_⟩
    unfold semOf at h
    rw [if_pos h1] at h
    have pin : ∀ {i : Nat} {v : V} {σ' : L2.St} {F' H' : Hp} {e : Env} {fp' : Nat → List Addr}, RepF G ⟨F, H, A0, io.filterMap (fun i => vs[i]?.map fun v => (i, v)), fun _ => none⟩ F' H' σ' e fp' → i ∈ io → i < n → σ'[i]? = some (some v) → vs[i]? = some v := fun {i v σ' F' H' e fp'} r hi hl hv => by
      have e2 : vs[i]? = some (vs[i]'(by omega)) := by simp [h2, hl]
      have := r.pin i (vs[i]'(by omega)) (List.mem_filterMap.mpr ⟨i, hi, by rw [e2]; rfl⟩)
      rw [hv] at this
      cases this
      exact e2
    have done : ∀ {t : T} {v : V} {σ' : L2.St} {F' H' : Hp} {e : Env}, RepV G ⟨F, H, A0, io.filterMap (fun i => vs[i]?.map fun v => (i, v)), fun _ => none⟩ F' H' σ' e t v → OutOk G A0 H F' H' t (outs io n e) v vs ∧ Step A0 F H F' H' ∧ Sub F' H' := fun {t v σ' F' H' e} r => by
      obtain ⟨fp', A, r, o, nd, mi, dj⟩ := r
      refine ⟨⟨fp', A, fun i ti hi => ?_, fun i j ti tj ne hi hj => ?_, o, nd, mi⟩, r.st, r.sub⟩
      · obtain ⟨h3, h4, h5⟩ := outs_at hi
        obtain ⟨u, h6, h7⟩ := r.own i ti h5
        exact ⟨u, pin r h3 h4 h6, h7, (r.nd i ti h5).1, (r.nd i ti h5).2, dj i ti h5⟩
      · exact r.dj i j ti tj ne (outs_at hi).2.2 (outs_at hj).2.2
    cases e : g (startE m ts) with
    | fail => rw [e] at h; exact h.elim
    | exc x e' =>
      rw [e] at h
      intro cls dd σ' H' F' g1 r dx
      obtain ⟨fp', r⟩ := r
      exact h cls dd F' H' r.st r.sub dx
    | ok a e' =>
      rw [e] at h
      cases a with
      | nx =>
        intro σ' H' F' g1 r
        obtain ⟨h3, h4, h5⟩ := done (r.fz (d := .non) (v := .non) (by simp [Den]))
        exact h _ F' H' h4 h5 h3
      | rt t =>
        intro v σ' H' F' g1 r
        obtain ⟨h3, h4, h5⟩ := done r
        exact h v F' H' h4 h5 h3
      | bk => exact h.elim
      | ct => exact h.elim
end
/-- a def stands under a name -/
structure Has (P : Program) (w : World) (G : Tx) (mg : Str → Option Value) (base : Heap) (x : Str) (k n : Nat) (sem : List T → FO) : Prop where
  ex : ∃ f fd ps, mg x = some (.ref f) ∧ PySem.W.keepIn G.K (.ref f) = true ∧ FnOk P w G.K mg base (L2.CX P w) k f fd ps (spD G n sem) ∧ Binds G.K fd ps []
/-- a method of a class -/
structure HasM (P : Program) (w : World) (G : Tx) (mg : Str → Option Value) (base : Heap) (c : Nat) (m : Str) (k n : Nat) (sem : List T → FO) : Prop where
  ex : ∀ C, G.ct c = some C → ∃ f fd ps, Cls G.K C ∧ Meth G.K C m f ∧ FnOk P w G.K mg base (L2.CX P w) k f fd ps (spD G n sem) ∧ Binds G.K fd ps []
/-- a class that is made by its __init__ -/
structure HasC (P : Program) (w : World) (G : Tx) (mg : Str → Option Value) (base : Heap) (x : Str) (c k n : Nat) (sem : List T → FO) : Prop where
  ex : ∃ C f fd ps, G.ct c = some C ∧ mg x = some (.ref C) ∧ Mk G.K C f ∧ FnOk P w G.K mg base (L2.CX P w) k f fd ps (spD G n sem) ∧ Binds G.K fd ps []

/-! ### frozen arguments -/
section
variable {G : Tx} {F H : Hp}
theorem args_fz : ∀ {ds : List D} {vs : List V}, DenL G F ds vs → ∀ (i : Nat) (t : T), (ds.map T.fz)[i]? = some t → ∃ v, vs[i]? = some v ∧ Own G F H t v []
  | [], vs, h, i, t, e => by simp at e
  | d :: ds, vs, h, i, t, e => by
    simp only [DenL] at h
    obtain ⟨v, r, rfl, h1, h2⟩ := h
    cases i with
    | zero =>
      simp only [List.map_cons, List.getElem?_cons_zero, Option.some.injEq] at e
      subst e
      exact ⟨v, rfl, by simp only [Own]; exact ⟨trivial, h1⟩⟩
    | succ i =>
      simp only [List.map_cons, List.getElem?_cons_succ] at e ⊢
      exact args_fz h2 i t e
theorem argsOk_fz {n : Nat} {ds : List D} {vs : List V} (h : DenL G F ds vs) : ArgsOk G F H n (ds.map T.fz) vs (fun _ => []) [] :=
  ⟨fun i t e => by
    obtain ⟨v, h1, h2⟩ := args_fz (H := H) h i t e
    exact ⟨v, h1, h2, List.nodup_nil, fun _ z => nomatch z⟩, fun i j _ _ _ a z => nomatch z⟩
/-- what a call gives: its value, and what was handed -/
def fo (n : Nat) (sem : List T → FO) (ts : List T) : FO := if ts.length = n then sem ts else .fail
end
section
variable {X : Cx} {G : Tx} {W : WX} {C : DCtx} {a b e o : Expr} {es : List Expr} {ga gb : Env → Out D} {gs : Env → Out (List D)} {pos apos : Pos} {i k n : Nat} {p : Pth} {x m : Str} {sem : List T → FO}
/-- behind a call with frozen arguments -/
theorem call_fz {F H : Hp} {σ : L2.St} {env : Env} {Q : VK} {ds : List D} {vs : List V} (r : Rep G C F H σ env) (dv : DenL G F ds vs)
    (h : pst (RlO G C σ) (exW G W C σ) Q F (match fo n sem (ds.map T.fz) with
      | .ok t _ => Out.ok t env
      | .exc x => .exc x env
      | .fail => .fail)) : spD G n sem vs H Q (fun cls d H' => W cls d σ H') := by
  unfold fo at h
  split at h
  · rename_i t ts' e
    split at e
    · rename_i hl
      refine ⟨F, ds.map T.fz, [], fun _ => [], r.sub, r.tb, hl, by rw [dv.len]; simpa using hl, argsOk_fz dv, ?_⟩
      rw [e]
      intro v F' H' st sub ⟨fp', Br, h1, h2, h3, h4, h5⟩
      refine h v H' F' st.gr ?_
      obtain ⟨fp, r⟩ := r
      refine ⟨fp, Br, r.step st sub (fun _ _ _ _ _ z => nomatch z) (fun _ z => nomatch z), h3, h4, fun a ha => ?_, fun i ti ei a ha z => ?_⟩
      · rcases h5 a ha with q | q
        · cases q
        · exact (r.st.back q)
      · obtain ⟨u, _, ou⟩ := r.own i ti ei
        obtain ⟨_, o1, e1⟩ := ou.mem a ha
        rcases h5 a z with q | q
        · cases q
        · rw [q] at e1; cases e1
    · cases e
  · rename_i x e
    split at e
    · rename_i hl
      refine ⟨F, ds.map T.fz, [], fun _ => [], r.sub, r.tb, hl, by rw [dv.len]; simpa using hl, argsOk_fz dv, ?_⟩
      rw [e]
      intro cls dd F' H' st sub dx
      exact h cls dd H' F' st.gr (r.step0 st sub) dx
    · cases e
  · exact h.elim
def callG (n : Nat) (sem : List T → FO) (gs : Env → Out (List D)) (env : Env) : Out T := (gs env).bind fun ds e => match fo n sem (ds.map T.fz) with
  | .ok t _ => .ok t e
  | .exc x => .exc x e
  | .fail => .fail
/-- f(e, ..): frozen arguments -/
theorem do_call (tk : Takes X W) (hK : X.K = G.K) {q : Pos} (h : Has X.prog X.w G X.mg X.base x k n sem) (hr : Room k X.A) (hg : Gl X x) (ha : DA X G W C (e :: es) gs) (hdb : (x == ("__debug__" : Str)) = false := by decide)
    (he : starEach (e :: es) X.env = (false, eval e X.env) :: starEach es X.env := by rfl) (hpl : (backTo pos (starEach es X.env)).any (·.1) = false := by rfl) : DO X G W C (.Call (.Name x q) (e :: es) [] pos) (callG n sem gs) := by
  obtain ⟨f, fd, ps, h1, h2, h3, h4⟩ := h.ex
  rw [← hK] at h2 h3 h4
  exact PE_imp (pe_callS (E := WE W) h3 hr hg h1 h2 h4 (fun σ => passAt tk σ) ha hdb he hpl) fun σ H Q ⟨F, env, r, q⟩ => ⟨F, env, r, pst_bind q fun ds e1 vs H1 F1 g1 r1 q1 => call_fz r1.1 r1.2 q1⟩

/-! ### the receiver or the first argument is handed to be changed, the others are frozen and looked at only -/
def setE (i : Nat) (t : T) (env : Env) : Env := env.set i (some (.own t))
def putG (i : Nat) (p : Pth) (t : T) (env : Env) : Option Env :=
  match env[i]? with
  | some (some (Ent.own t0)) => if ownP p t0 = true then (getP p t0).map fun _ => setE i (setP p t t0) env else none
  | _ => none
/-- what is one's own at a place -/
def rdo (i : Nat) (p : Pth) (env : Env) : Option T :=
  match env[i]? with
  | some (some (Ent.own t0)) => if ownP p t0 = true then getP p t0 else none
  | _ => none
def dropE (i : Nat) (env : Env) : Env := env.set i none
def afterIO (n : Nat) (sem : List T → FO) (i : Nat) (p : Pth) (t : T) (env : Env) (ds : List D) : Out T :=
  match fo n sem (t :: ds.map T.fz) with
  | .ok r (some t' :: _) => (match putG i p t' env with
    | some e' => .ok r e'
    | none => .fail)
  | .exc x => .exc x (dropE i env)
  | _ => .fail
def callIO (n : Nat) (sem : List T → FO) (i : Nat) (p : Pth) (gs : Env → Out (List D)) (env : Env) : Out T :=
  match rdo i p env with
  | none => .fail
  | some t => (pur gs env).bind fun ds e => afterIO n sem i p t e ds
theorem set_set {env : Env} {i : Nat} {x y : Option Ent} : (env.set i x).set i y = env.set i y := by simp
/-- the focus on a place of one's own; N: what else is one's own -/
theorem RepF.own_at {F H : Hp} {σ : L2.St} {env : Env} {t : T} {fp : Nat → List Addr} {N : List Addr} (r : RepF G C F H σ env fp) (mN : C.mine N) (dN : ∀ (j : Nat) (tj : T), env[j]? = some (some (Ent.own tj)) → ∀ a ∈ fp j, a ∉ N) (ok : POk G p) (e : rdo i p env = some t) :
    ∃ v w B, σ[i]? = some (some v) ∧ Rch G H v p w ∧ Own G F H t w B ∧ B.Nodup ∧ (∀ {F' H' : Hp}, Step B F H F' H' → Sub F' H' → Rep G C F' H' σ (dropE i env)) ∧ C.mine B ∧ (∀ a ∈ B, a ∉ N) ∧
      ∀ {F' H' : Hp} {t' : T} {B' A1 : List Addr}, Step A1 F H F' H' → (∀ b ∈ A1, b ∈ B) → Sub F' H' → Own G F' H' t' w B' → B'.Nodup → (∀ a ∈ B', a ∈ B ∨ H a = none ∨ a ∈ N) → ∃ env', putG i p t' env = some env' ∧
        ∀ {u : T} {y : V} {Br : List Addr}, Own G F' H' u y Br → Br.Nodup → (∀ a ∈ Br, a ∈ B ∨ H a = none ∨ a ∈ N) → (∀ a ∈ Br, a ∉ B') → RepV G C F' H' σ env' u y := by
  unfold rdo at e
  split at e
  · rename_i t0 e0
    split at e
    · rename_i eo
      obtain ⟨v, h1, h2⟩ := r.own i t0 e0
      obtain ⟨nd0, mi0⟩ := r.nd i t0 e0
      obtain ⟨w, B, k1, k2, k3, k4, k5⟩ := h2.focus ok e eo
      have rest0 : ∀ {F' H' : Hp} {A1 : List Addr}, Step A1 F H F' H' → (∀ b ∈ A1, b ∈ B) → Sub F' H' → RepF G C F' H' σ (env.set i none) fp := fun {F' H' A1} s hb sub => by
        refine ⟨r.st.trans s fun b z => mi0 b (k3 b (hb b z)), sub, by simp [r.len], fun j tj ej => ?_, r.bok, fun j tj ej => r.bor j tj (set_none ej).2, fun j tj ej => r.nd j tj (set_none ej).2, fun j k tj tk ne ej ek => r.dj j k tj tk ne (set_none ej).2 (set_none ek).2, r.pin, fun p hp => s.tab p hp (r.tb p hp)⟩
        obtain ⟨nj, ej⟩ := set_none ej
        obtain ⟨vj, l1, l2⟩ := r.own j tj ej
        exact ⟨vj, l1, l2.step s fun a ha z => r.dj j i tj t0 nj ej e0 a ha (k3 a (hb a z))⟩
      refine ⟨v, w, B, h1, k1, k2, k4 nd0, fun {F' H'} s sub => ⟨fp, rest0 s (fun _ z => z) sub⟩, fun a ha => mi0 a (k3 a ha), fun a ha => dN i t0 e0 a (k3 a ha), fun {F' H' t' B' A1} s hb sub o nd hB => ?_⟩
      have out : ∀ {a : Addr}, a ∈ B ∨ H a = none ∨ a ∈ N → a ∈ B ∨ a ∉ fp i := fun {a} h => by
        rcases h with z | z | z
        · exact .inl z
        · refine .inr fun q => ?_
          obtain ⟨_, o1, e1⟩ := h2.mem a q
          rw [z] at e1; cases e1
        · exact .inr fun q => dN i t0 e0 a q z
      obtain ⟨A', o2, nd2, i2⟩ := k5 s hb nd0 o nd fun a ha => out (hB a ha)
      refine ⟨setE i (setP p t' t0) env, ?_, fun {u y Br} ou ndu hu dj => ?_⟩
      · unfold putG
        rw [e0]
        simp only
        rw [if_pos eo, e]
        rfl
      · have hrest : RepF G C F' H' σ (env.set i none) fp := rest0 s hb sub
        have mineN : ∀ {L : List Addr}, (∀ a ∈ L, a ∈ fp i ∨ H a = none ∨ a ∈ N) → C.mine L := fun {L} hL a ha => by
          rcases hL a ha with z | z | z
          · exact mi0 a z
          · exact r.st.back z
          · exact mN a z
        have apart : ∀ {L : List Addr}, (∀ a ∈ L, a ∈ fp i ∨ H a = none ∨ a ∈ N) → ∀ (j : Nat) (tj : T), (env.set i none)[j]? = some (some (Ent.own tj)) → ∀ a ∈ fp j, a ∉ L := fun {L} hL j tj ej a ha z => by
          obtain ⟨nj, ej⟩ := set_none ej
          rcases hL a z with q | q | q
          · exact r.dj j i tj t0 nj ej e0 a ha q
          · obtain ⟨vj, l1, l2⟩ := r.own j tj ej
            obtain ⟨_, o1, e1⟩ := l2.mem a ha
            rw [q] at e1; cases e1
          · exact dN j tj ej a ha q
        have hBr : ∀ a ∈ Br, a ∈ fp i ∨ H a = none ∨ a ∈ N := fun a ha => by
          rcases hu a ha with z | z
          · exact .inl (k3 a z)
          · exact .inr z
        have i2' : ∀ a ∈ A', a ∈ fp i ∨ H a = none ∨ a ∈ N := fun a ha => by
          rcases i2 a ha with z | ⟨z, _⟩
          · rcases hB a z with z | z
            · exact .inl (k3 a z)
            · exact .inr z
          · exact .inl z
        have dAB : ∀ a ∈ A', a ∉ Br := fun a ha z => by
          rcases i2 a ha with q | ⟨q, q'⟩
          · exact dj a z q
          · rcases out (hu a z) with y1 | y1
            · exact q' y1
            · exact y1 q
        refine ⟨fun j => if j = i then A' else fp j, Br, ⟨hrest.st, hrest.sub, by simp [setE, r.len], fun j tj ej => ?_, r.bok, fun j tj ej => ?_, fun j tj ej => ?_, fun j k tj tk ne ej ek a ha => ?_, r.pin, hrest.tb⟩, ou, ndu, mineN hBr, fun j tj ej a ha z => ?_⟩
        · rcases set_some ej with ⟨rfl, q, hl⟩ | ⟨q, ej2⟩
          · cases q
            rw [if_pos rfl]
            exact ⟨v, h1, o2⟩
          · rw [if_neg q]
            exact hrest.own j tj (by rw [List.getElem?_set_ne (Ne.symm q)]; exact ej2)
        · rcases set_some ej with ⟨rfl, q, hl⟩ | ⟨q, ej2⟩
          · cases q
          · exact r.bor j tj ej2
        · rcases set_some ej with ⟨rfl, q, hl⟩ | ⟨q, ej2⟩
          · rw [if_pos rfl]; exact ⟨nd2, mineN i2'⟩
          · rw [if_neg q]
            exact r.nd j tj ej2
        · rcases set_some ej with ⟨rfl, q, hl⟩ | ⟨q, ej2⟩
          · rw [if_pos rfl] at ha
            rcases set_some ek with ⟨rfl, _, _⟩ | ⟨qk, ek2⟩
            · exact absurd rfl ne
            · rw [if_neg qk]
              exact fun z => apart i2' k tk (by rw [List.getElem?_set_ne (Ne.symm qk)]; exact ek2) a z ha
          · rw [if_neg q] at ha
            rcases set_some ek with ⟨rfl, _, _⟩ | ⟨qk, ek2⟩
            · rw [if_pos rfl]
              exact apart i2' j tj (by rw [List.getElem?_set_ne (Ne.symm q)]; exact ej2) a ha
            · rw [if_neg qk]
              exact r.dj j k tj tk ne ej2 ek2 a ha
        · have ha : a ∈ if j = i then A' else fp j := ha
          by_cases q : j = i
          · subst q
            rw [if_pos rfl] at ha
            exact dAB a ha z
          · rw [if_neg q] at ha
            rcases set_some ej with ⟨rfl, _, _⟩ | ⟨_, ej2⟩
            · exact q rfl
            · exact apart hBr j tj (by rw [List.getElem?_set_ne (Ne.symm q)]; exact ej2) a ha z
    · cases e
  · cases e
theorem Rep.own_at {F H : Hp} {σ : L2.St} {env : Env} {t : T} (r : Rep G C F H σ env) (ok : POk G p) (e : rdo i p env = some t) :
    ∃ v w B, σ[i]? = some (some v) ∧ Rch G H v p w ∧ Own G F H t w B ∧ B.Nodup ∧ (∀ {F' H' : Hp}, Step B F H F' H' → Sub F' H' → Rep G C F' H' σ (dropE i env)) ∧ C.mine B ∧
      ∀ {F' H' : Hp} {t' : T} {B' A1 : List Addr}, Step A1 F H F' H' → (∀ b ∈ A1, b ∈ B) → Sub F' H' → Own G F' H' t' w B' → B'.Nodup → (∀ a ∈ B', a ∈ B ∨ H a = none) → ∃ env', putG i p t' env = some env' ∧
        ∀ {u : T} {y : V} {Br : List Addr}, Own G F' H' u y Br → Br.Nodup → (∀ a ∈ Br, a ∈ B ∨ H a = none) → (∀ a ∈ Br, a ∉ B') → RepV G C F' H' σ env' u y := by
  obtain ⟨fp, r⟩ := r
  obtain ⟨v, w, B, h1, h2, h3, h4, h5, h6, _, h7⟩ := r.own_at (N := []) (fun _ z => nomatch z) (fun _ _ _ _ _ z => nomatch z) ok e
  refine ⟨v, w, B, h1, h2, h3, h4, h5, h6, fun {F' H' t' B' A1} s hb sub o nd hB => ?_⟩
  obtain ⟨env', e1, k⟩ := h7 s hb sub o nd fun a ha => by
    rcases hB a ha with z | z
    · exact .inl z
    · exact .inr (.inl z)
  refine ⟨env', e1, fun {u y Br} ou ndu hu dj => k ou ndu (fun a ha => ?_) dj⟩
  rcases hu a ha with z | z
  · exact .inl z
  · exact .inr (.inl z)

/-- behind a call whose first argument stands at a place of one's own -/
theorem call_io {F H : Hp} {σ : L2.St} {env : Env} {Q : VK} {t : T} {ds : List D} {w : V} {vs : List V} {B : List Addr} (r : Rep G C F H σ env) (ow : Own G F H t w B) (nd : B.Nodup) (mi : C.mine B) (dv : DenL G F ds vs)
    (put : ∀ {F' H' : Hp} {t' : T} {B' A1 : List Addr}, Step A1 F H F' H' → (∀ b ∈ A1, b ∈ B) → Sub F' H' → Own G F' H' t' w B' → B'.Nodup → (∀ a ∈ B', a ∈ B ∨ H a = none) → ∃ env', putG i p t' env = some env' ∧
        ∀ {u : T} {y : V} {Br : List Addr}, Own G F' H' u y Br → Br.Nodup → (∀ a ∈ Br, a ∈ B ∨ H a = none) → (∀ a ∈ Br, a ∉ B') → RepV G C F' H' σ env' u y)
    (drp : ∀ {F' H' : Hp}, Step B F H F' H' → Sub F' H' → Rep G C F' H' σ (dropE i env))
    (h : pst (RlO G C σ) (exW G W C σ) Q F (afterIO n sem i p t env ds)) : spD G n sem (w :: vs) H Q (fun cls d H' => W cls d σ H') := by
  unfold afterIO fo at h
  by_cases hl : (t :: ds.map T.fz).length = n
  · rw [if_pos hl] at h
    refine ⟨F, t :: ds.map T.fz, B, fun j => if j = 0 then B else [], r.sub, r.tb, hl, by rw [← hl]; simp [dv.len], ⟨fun j tj e => ?_, fun j k ne _ _ a ha => ?_⟩, ?_⟩
    · cases j with
      | zero =>
        simp only [List.getElem?_cons_zero, Option.some.injEq] at e
        subst e
        exact ⟨w, rfl, by simpa using ow, by simpa using nd, fun _ z => by simpa using z⟩
      | succ j =>
        simp only [List.getElem?_cons_succ] at e ⊢
        obtain ⟨v, h1, h2⟩ := args_fz (H := H) dv j tj e
        exact ⟨v, h1, by simpa using h2, by simp, fun _ z => by simp at z⟩
    · by_cases q : j = 0
      · have : k ≠ 0 := fun z => ne (q.trans z.symm)
        show a ∉ (if k = 0 then B else [])
        rw [if_neg this]
        exact fun z => nomatch z
      · have ha : a ∈ (if j = 0 then B else []) := ha
        rw [if_neg q] at ha
        cases ha
    · cases e : sem (t :: ds.map T.fz) with
      | fail => rw [e] at h; exact h.elim
      | exc x =>
        rw [e] at h
        intro cls dd F' H' st sub dx
        exact h cls dd H' F' st.gr (drp st sub) dx
      | ok rr ts' =>
        rw [e] at h
        intro v F' H' st sub ⟨fp', Br, h1, h2, h3, h4, h5⟩
        cases ts' with
        | nil => exact h.elim
        | cons o r' =>
          cases o with
          | none => exact h.elim
          | some t' =>
            obtain ⟨w', e1, o1, n1, m1, d1⟩ := h1 0 t' rfl
            simp only [List.getElem?_cons_zero, Option.some.injEq] at e1
            subst e1
            obtain ⟨env', e2, fin⟩ := put st (fun _ z => z) sub o1 n1 m1
            simp only [e2] at h
            exact h v H' F' st.gr (fin h3 h4 h5 fun a ha z => d1 a z ha)
  · rw [if_neg hl] at h
    exact h.elim
/-- an io call at a place, whatever calls it -/
theorem io_run {F H : Hp} {σ : L2.St} {env : Env} {Q : VK} {t : T} {ds : List D} {vs : List V} (r : Rep G C F H σ env) (ok : POk G p) (e : rdo i p env = some t) (dv : DenL G F ds vs)
    (h : pst (RlO G C σ) (exW G W C σ) Q F (afterIO n sem i p t env ds)) : ∃ v w, σ[i]? = some (some v) ∧ Rch G H v p w ∧ spD G n sem (w :: vs) H Q (fun cls d H' => W cls d σ H') := by
  obtain ⟨v, w, B, h1, h2, h3, h4, h5, h6, h7⟩ := r.own_at ok e
  exact ⟨v, w, h1, h2, call_io r h3 h4 h6 dv h7 h5 h⟩
theorem rdo_dropped {F H F' H' : Hp} {v w : V} (h : Rch G H v p w) (l : Lay F H F' H') : Rch G H' v p w := h.step l.st fun _ _ _ _ _ z => nomatch z
theorem Rch.det {H : Hp} : ∀ {p : Pth} {v w w' : V}, Rch G H v p w → Rch G H v p w' → w = w'
  | [], v, w, w', h, h' => by
    rw [show w = v from h, show w' = v from h']
  | (cs, f) :: r, v, w, w', h, h' => by
    obtain ⟨a, C, dx, fs, u, e, h1, c1, c2, l, k⟩ := h
    obtain ⟨a', C', dx', fs', u', e', h1', c1', c2', l', k'⟩ := h'
    rw [e] at e'
    cases e'
    rw [h1] at h1'
    cases h1'
    rw [l] at l'
    cases l'
    exact Rch.det k k'
/-- f(x, e, ..): the first argument a slot of one's own -/
theorem do_callio (tk : Takes X W) (hK : X.K = G.K) {q : Pos} (h : Has X.prog X.w G X.mg X.base x k n sem) (hr : Room k X.A) (hg : Gl X x) (ok : POk G p) (hp : DP X G e i p) (ha : ∀ C', C'.pv = [] → DA X G W C' es gs) (hdb : (x == ("__debug__" : Str)) = false := by decide)
    (he : starEach (e :: es) X.env = (false, eval e X.env) :: starEach es X.env := by rfl) (hpl : (backTo pos (starEach es X.env)).any (·.1) = false := by rfl) : DO X G W C (.Call (.Name x q) (e :: es) [] pos) (callIO n sem i p gs) := by
  obtain ⟨f, fd, ps, h1, h2, h3, h4⟩ := h.ex
  rw [← hK] at h2 h3 h4
  have hA : PA X (e :: es) (fun σ H Q => ∃ F env t, Rep G C F H σ env ∧ rdo i p env = some t ∧ pst (fun ds F' H' _ vs => Lay F H F' H' ∧ DenL G F' ds vs) (exW G W C σ) (fun vs H' => ∀ v w, σ[i]? = some (some v) → Rch G H' v p w → Q (w :: vs) H') F (pur gs env)) := by
    refine ⟨fun pos' pins s σ H Q I ⟨F, env, t, r, e0, q⟩ => ?_⟩
    obtain ⟨v, w, B, a1, a2, a3, _⟩ := r.own_at ok e0
    obtain ⟨F1, env1, r1, q1⟩ := pure_run (P := fun ds F' vs => DenL G F' ds vs) r q
    have hAp : PA X (e :: es) _ := pa_cons hp (ha (pureC F H σ env) rfl) he
    refine hAp.run pos' pins s σ H Q I ⟨v, w, a1, a2, ?_⟩
    refine ⟨F1, env1, r1, ?_⟩
    cases eg : gs env1 with
    | fail => rw [eg] at q1; exact q1
    | exc x e => rw [eg] at q1; exact q1
    | ok ds e =>
      rw [eg] at q1
      intro vs H' F' g1 rr
      refine q1 vs H' F' g1 rr v w a1 ?_
      exact rdo_dropped a2 ⟨by obtain ⟨fp, r⟩ := rr.1; exact r.st, rr.1.sub⟩
  refine PE_imp (pe_callS (E := WE W) h3 hr hg h1 h2 h4 (fun σ => passAt tk σ) hA hdb he hpl) fun σ H Q ⟨F, env, r, q⟩ => ?_
  replace q : pst (RlO G C σ) (exW G W C σ) Q F (callIO n sem i p gs env) := q
  unfold callIO at q
  cases e0 : rdo i p env with
  | none => rw [e0] at q; exact q.elim
  | some t =>
    rw [e0] at q
    refine ⟨F, env, t, r, e0, ?_⟩
    cases eg : pur gs env with
    | fail => rw [eg] at q; exact q
    | exc x e => rw [eg] at q; exact q
    | ok ds e =>
      rw [eg] at q
      have he : e = env := by
        unfold pur at eg
        split at eg <;> cases eg
        rfl
      subst he
      intro vs H' F' g1 ⟨l, dv⟩ v w hv hw
      obtain ⟨v', w', k1, k2, k3⟩ := io_run (r.lay l) ok e0 dv (pst.gr (show pst (RlO G C σ) (exW G W C σ) Q F (afterIO n sem i p t e ds) from q) l.gr)
      rw [hv] at k1
      cases k1
      rw [hw.det k2]
      exact k3
/-- the receiver's method runs -/
theorem pe_methX {CX : CXT} {ta : TE} {t : TA} {E : L2.St → XK} {pl : Sem Bool} (he : PE X o ta) (hx : ∀ σ, PassesAt CX X σ (E σ)) (ha : PA X (e :: es) t)
    (hst : starEach (e :: es) X.env = (false, eval e X.env) :: starEach es X.env := by rfl) (hpl : (backTo pos (starEach es X.env)).any (·.1) = false := by rfl)
    (ht : eval (.Call (.Attribute o m apos) (e :: es) [] pos) X.env = (do
      let ov ← eval o X.env
      standAt apos.atName
      let (f, first) ← holding [ov] (getMethod ov m pl)
      callWith pos f first (backTo pos (starEach (e :: es) X.env)) (backToKw pos (keywordEach [] X.env))) := by rfl) :
    PE X (.Call (.Attribute o m apos) (e :: es) [] pos) (fun σ H Q => ta σ H fun x H1 => ∃ a C dx fs f fd ps k sp, x = .ref a ∧ H1 a = some (.ins C dx fs) ∧ fs.lookup m = none ∧ Cls X.K C ∧ Meth X.K C m f ∧
      FnOk X.prog X.w X.K X.mg X.base CX k f fd ps sp ∧ Room k X.A ∧ Binds X.K fd ps [] ∧ t σ H1 fun vs H2 => sp (x :: vs) H2 Q (E σ)) := by
  refine ⟨fun pins s σ H Q I h => ?_⟩
  refine PySem.W.methodCall_KW (pl := pl) (thn (he.run pins s σ H _ I h) fun u s1 ⟨x, H1, I1, rx, a, C, dx, fs, f, fd, ps, k, sp, ex, ea, l, c, hm, Fn, hr, hb, q⟩ => ?_) ht
  subst ex
  obtain rfl : u = Value.ref a := rx
  refine getmeth_ok I1 ea c hm l ?_
  refine PySem.W.callWith_K (first := [.ref a]) (h₀ := X.base) I.ok.mod.kin hm.kp (thn (ha.run pos pins s1 σ H1 _ I1 q) fun us s2 ⟨vs, H2, I2, r, q2⟩ => ⟨I2.kIn, ?_⟩) hst hpl
  exact run_fnS (us := .ref a :: us) (vs := .ref a :: vs) Fn hr hb (hx σ) I2 (.cons rfl r) q2
theorem pe_methX0 {CX : CXT} {ta : TE} {E : L2.St → XK} {pl : Sem Bool} (he : PE X o ta) (hx : ∀ σ, PassesAt CX X σ (E σ))
    (ht : eval (.Call (.Attribute o m apos) [] [] pos) X.env = (do
      let ov ← eval o X.env
      standAt apos.atName
      let (f, first) ← holding [ov] (getMethod ov m pl)
      callWith pos f first (backTo pos (starEach [] X.env)) (backToKw pos (keywordEach [] X.env))) := by rfl) :
    PE X (.Call (.Attribute o m apos) [] [] pos) (fun σ H Q => ta σ H fun x H1 => ∃ a C dx fs f fd ps k sp, x = .ref a ∧ H1 a = some (.ins C dx fs) ∧ fs.lookup m = none ∧ Cls X.K C ∧ Meth X.K C m f ∧
      FnOk X.prog X.w X.K X.mg X.base CX k f fd ps sp ∧ Room k X.A ∧ Binds X.K fd ps [] ∧ sp [x] H1 Q (E σ)) := by
  refine ⟨fun pins s σ H Q I h => ?_⟩
  refine PySem.W.methodCall_KW (pl := pl) (thn (he.run pins s σ H _ I h) fun u s1 ⟨x, H1, I1, rx, a, C, dx, fs, f, fd, ps, k, sp, ex, ea, l, c, hm, Fn, hr, hb, q⟩ => ?_) ht
  subst ex
  obtain rfl : u = Value.ref a := rx
  refine getmeth_ok I1 ea c hm l ?_
  exact PySem.W.callWith_K0 (first := [.ref a]) I1.kIn hm.kp (run_fnS (us := [.ref a]) (vs := [.ref a]) Fn hr hb (hx σ) I1 (.cons rfl .nil) q)
/-- which class the receiver is of, and that the name is no attribute of its own -/
def clsT : T → Option (Nat × List Str)
  | .ins c fs => some (c, fs.map (·.1))
  | .fz (.ins c ds) => some (c, ds.map (·.1))
  | _ => none
theorem DenF.names {F : Hp} : ∀ {ds : List (Str × D)} {vs : List (Str × V)}, DenF G F ds vs → vs.map (·.1) = ds.map (·.1)
  | [], vs, h => by simp only [DenF] at h; rw [h]; rfl
  | (k, d) :: r, vs, h => by
    simp only [DenF] at h
    obtain ⟨v, t, rfl, _, h2⟩ := h
    simp [h2.names]
theorem OwnF.names {F H : Hp} : ∀ {ds : List (Str × T)} {vs : List (Str × V)} {A : List Addr}, OwnF G F H ds vs A → vs.map (·.1) = ds.map (·.1)
  | [], vs, A, h => by simp only [OwnF] at h; rw [h.1]; rfl
  | (k, d) :: r, vs, A, h => by
    simp only [OwnF] at h
    obtain ⟨v, t, A1, A2, rfl, _, _, h2⟩ := h
    simp [h2.names]
theorem look_none {vs : List (Str × V)} {m : Str} (h : m ∉ vs.map (·.1)) : vs.lookup m = none := by
  induction vs with
  | nil => rfl
  | cons q r ih =>
    rw [List.lookup_cons]
    have h1 : (m == q.1) = false := by simp; intro z; exact h (by simp [z])
    rw [h1]
    exact ih fun z => h (by simp at z ⊢; exact .inr z)
theorem Own.cls {F H : Hp} (s : Sub F H) {t : T} {v : V} {A : List Addr} {c : Nat} {ns : List Str} {m : Str} (h : Own G F H t v A) (e : clsT t = some (c, ns)) (hm : m ∉ ns) : ∃ a C dx fs, v = .ref a ∧ G.ct c = some C ∧ H a = some (.ins C dx fs) ∧ fs.lookup m = none := by
  cases t with
  | ins c' fs =>
    simp only [clsT, Option.some.injEq, Prod.mk.injEq] at e
    obtain ⟨rfl, rfl⟩ := e
    simp only [Own] at h
    obtain ⟨a, C, dx, vs, B, rfl, rfl, h1, _, h2, h3⟩ := h
    exact ⟨a, C, dx, vs, rfl, h1, h2, look_none (by rw [h3.names]; exact hm)⟩
  | fz d =>
    cases d with
    | ins c' ds =>
      simp only [clsT, Option.some.injEq, Prod.mk.injEq] at e
      obtain ⟨rfl, rfl⟩ := e
      simp only [Own, Den] at h
      obtain ⟨_, a, C, dx, vs, rfl, h1, h2, h3⟩ := h
      exact ⟨a, C, dx, vs, rfl, h1, s a _ h2, look_none (by rw [h3.names]; exact hm)⟩
    | _ => simp [clsT] at e
  | _ => simp [clsT] at e
/-- methods by class -/
abbrev MS := Nat → Option (List T → FO)
def pick (ms : MS) (m : Str) (t : T) : Option (List T → FO) :=
  match clsT t with
  | some (c, ns) => if m ∈ ns then none else ms c
  | none => none
def callM (n : Nat) (ms : MS) (m : Str) (ga : Env → Out D) (gs : Env → Out (List D)) (env : Env) : Out T := (ga env).bind fun d e => match pick ms m (.fz d) with
  | none => .fail
  | some sem => (gs e).bind fun ds e => match fo n sem ((d :: ds).map T.fz) with
    | .ok t _ => .ok t e
    | .exc x => .exc x e
    | .fail => .fail
theorem pick_ok {ms : MS} {t : T} (h : pick ms m t = some sem) : ∃ c ns, clsT t = some (c, ns) ∧ m ∉ ns ∧ ms c = some sem := by
  unfold pick at h
  split at h
  · rename_i c ns e
    split at h
    · cases h
    · rename_i hm
      exact ⟨c, ns, e, hm, h⟩
  · cases h
/-- o.m(e, ..): all frozen -/
theorem do_meth {ms : MS} {pl : Sem Bool} (tk : Takes X W) (hK : X.K = G.K) (hr : Room k X.A) (h : ∀ c sem, ms c = some sem → HasM X.prog X.w G X.mg X.base c m k n sem) (ho : DE X G W C o ga) (ha : DA X G W C (e :: es) gs)
    (hst : starEach (e :: es) X.env = (false, eval e X.env) :: starEach es X.env := by rfl) (hpl : (backTo pos (starEach es X.env)).any (·.1) = false := by rfl)
    (ht : eval (.Call (.Attribute o m apos) (e :: es) [] pos) X.env = (do
      let ov ← eval o X.env
      standAt apos.atName
      let (f, first) ← holding [ov] (getMethod ov m pl)
      callWith pos f first (backTo pos (starEach (e :: es) X.env)) (backToKw pos (keywordEach [] X.env))) := by rfl) : DO X G W C (.Call (.Attribute o m apos) (e :: es) [] pos) (callM n ms m ga gs) :=
  PE_imp (pe_methX (pl := pl) (E := WE W) ho (fun σ => passAt tk σ) ha hst hpl ht) fun σ H Q ⟨F, env, r, q⟩ => ⟨F, env, r, pst_bind q fun d e1 x H1 F1 g1 r1 q1 => by
    cases ep : pick ms m (.fz d) with
    | none => rw [ep] at q1; exact q1.elim
    | some sem =>
      rw [ep] at q1
      obtain ⟨c, ns, ec, hm, hs⟩ := pick_ok ep
      obtain ⟨a, C', dx, fs, e2, e3, e4, e5⟩ := Own.cls (G := G) (A := []) (H := H1) (t := .fz d) r1.1.sub (by simp only [Own]; exact ⟨trivial, r1.2⟩) ec hm
      obtain ⟨f, fd, ps, m1, m2, m3, m4⟩ := (h c sem hs).ex C' e3
      rw [← hK] at m1 m2 m3 m4
      refine ⟨a, C', dx, fs, f, fd, ps, k, _, e2, e4, e5, m1, m2, m3, hr, m4, F1, e1, r1.1, pst_bind q1 fun ds e6 vs H2 F2 g2 r2 q2 => ?_⟩
      exact call_fz r2.1 (by simp only [DenL]; exact ⟨x, vs, rfl, r1.2.gr g2, r2.2⟩) q2⟩
def callM0 (n : Nat) (ms : MS) (m : Str) (ga : Env → Out D) (env : Env) : Out T := (ga env).bind fun d e => match pick ms m (.fz d) with
  | none => .fail
  | some sem => match fo n sem ([d].map T.fz) with
    | .ok t _ => .ok t e
    | .exc x => .exc x e
    | .fail => .fail
theorem do_meth0 {ms : MS} {pl : Sem Bool} (tk : Takes X W) (hK : X.K = G.K) (hr : Room k X.A) (h : ∀ c sem, ms c = some sem → HasM X.prog X.w G X.mg X.base c m k n sem) (ho : DE X G W C o ga)
    (ht : eval (.Call (.Attribute o m apos) [] [] pos) X.env = (do
      let ov ← eval o X.env
      standAt apos.atName
      let (f, first) ← holding [ov] (getMethod ov m pl)
      callWith pos f first (backTo pos (starEach [] X.env)) (backToKw pos (keywordEach [] X.env))) := by rfl) : DO X G W C (.Call (.Attribute o m apos) [] [] pos) (callM0 n ms m ga) :=
  PE_imp (pe_methX0 (pl := pl) (E := WE W) ho (fun σ => passAt tk σ) ht) fun σ H Q ⟨F, env, r, q⟩ => ⟨F, env, r, pst_bind q fun d e1 x H1 F1 g1 r1 q1 => by
    cases ep : pick ms m (.fz d) with
    | none => rw [ep] at q1; exact q1.elim
    | some sem =>
      rw [ep] at q1
      obtain ⟨c, ns, ec, hm, hs⟩ := pick_ok ep
      obtain ⟨a, C', dx, fs, e2, e3, e4, e5⟩ := Own.cls (G := G) (A := []) (H := H1) (t := .fz d) r1.1.sub (by simp only [Own]; exact ⟨trivial, r1.2⟩) ec hm
      obtain ⟨f, fd, ps, m1, m2, m3, m4⟩ := (h c sem hs).ex C' e3
      rw [← hK] at m1 m2 m3 m4
      refine ⟨a, C', dx, fs, f, fd, ps, k, _, e2, e4, e5, m1, m2, m3, hr, m4, ?_⟩
      exact call_fz r1.1 (ds := [d]) (by simp only [DenL]; exact ⟨x, [], rfl, r1.2, rfl⟩) q1⟩
/-- o.m(e, ..): the receiver at a place of one's own -/
def callMio (n : Nat) (ms : MS) (m : Str) (i : Nat) (p : Pth) (gs : Env → Out (List D)) (env : Env) : Out T :=
  match rdo i p env with
  | none => .fail
  | some t => match pick ms m t with
    | none => .fail
    | some sem => (pur gs env).bind fun ds e => afterIO n sem i p t e ds
theorem do_methio {ms : MS} {pl : Sem Bool} (tk : Takes X W) (hK : X.K = G.K) (hr : Room k X.A) (h : ∀ c sem, ms c = some sem → HasM X.prog X.w G X.mg X.base c m k n sem) (ok : POk G p) (ho : DP X G o i p) (ha : ∀ C', C'.pv = [] → DA X G W C' (e :: es) gs)
    (hst : starEach (e :: es) X.env = (false, eval e X.env) :: starEach es X.env := by rfl) (hpl : (backTo pos (starEach es X.env)).any (·.1) = false := by rfl)
    (ht : eval (.Call (.Attribute o m apos) (e :: es) [] pos) X.env = (do
      let ov ← eval o X.env
      standAt apos.atName
      let (f, first) ← holding [ov] (getMethod ov m pl)
      callWith pos f first (backTo pos (starEach (e :: es) X.env)) (backToKw pos (keywordEach [] X.env))) := by rfl) : DO X G W C (.Call (.Attribute o m apos) (e :: es) [] pos) (callMio n ms m i p gs) := by
  have hA : PA X (e :: es) (fun σ H Q => ∃ F env, Rep G C F H σ env ∧ pst (fun ds F' H' _ vs => Lay F H F' H' ∧ DenL G F' ds vs) (exW G W C σ) Q F (pur gs env)) := by
    refine ⟨fun pos' pins s σ H Q I ⟨F, env, r, q⟩ => ?_⟩
    obtain ⟨F1, env1, r1, q1⟩ := pure_run (P := fun ds F' vs => DenL G F' ds vs) r q
    exact (ha (pureC F H σ env) rfl).run pos' pins s σ H Q I ⟨F1, env1, r1, q1⟩
  refine PE_imp (pe_methX (pl := pl) (E := WE W) ho (fun σ => passAt tk σ) hA hst hpl ht) fun σ H Q ⟨F, env, r, q⟩ => ?_
  replace q : pst (RlO G C σ) (exW G W C σ) Q F (callMio n ms m i p gs env) := q
  unfold callMio at q
  cases e0 : rdo i p env with
  | none => rw [e0] at q; exact q.elim
  | some t =>
    rw [e0] at q
    simp only at q
    cases ep : pick ms m t with
    | none => rw [ep] at q; exact q.elim
    | some sem =>
      rw [ep] at q
      simp only at q
      obtain ⟨v, w, B, a1, a2, a3, _⟩ := r.own_at ok e0
      obtain ⟨c, ns, ec, hm, hs⟩ := pick_ok ep
      obtain ⟨a, C', dx, fs, e2, e3, e4, e5⟩ := a3.cls r.sub ec hm
      obtain ⟨f, fd, ps, m1, m2, m3, m4⟩ := (h c sem hs).ex C' e3
      rw [← hK] at m1 m2 m3 m4
      refine ⟨v, w, a1, a2, a, C', dx, fs, f, fd, ps, k, _, e2, e4, e5, m1, m2, m3, hr, m4, F, env, r, ?_⟩
      cases eg : pur gs env with
      | fail => rw [eg] at q; exact q
      | exc x e => rw [eg] at q; exact q
      | ok ds e =>
        rw [eg] at q
        have he : e = env := by
          unfold pur at eg
          split at eg <;> cases eg
          rfl
        subst he
        intro vs H' F' g1 ⟨l, dv⟩
        obtain ⟨v', w', k1, k2, k3⟩ := io_run (r.lay l) ok e0 dv (pst.gr (show pst (RlO G C σ) (exW G W C σ) Q F (afterIO n sem i p t e ds) from q) l.gr)
        rw [a1] at k1
        cases k1
        rw [(rdo_dropped a2 l).det k2]
        exact k3
def callMio0 (n : Nat) (ms : MS) (m : Str) (i : Nat) (p : Pth) (env : Env) : Out T :=
  match rdo i p env with
  | none => .fail
  | some t => match pick ms m t with
    | none => .fail
    | some sem => afterIO n sem i p t env []
theorem do_methio0 {ms : MS} {pl : Sem Bool} (tk : Takes X W) (hK : X.K = G.K) (hr : Room k X.A) (h : ∀ c sem, ms c = some sem → HasM X.prog X.w G X.mg X.base c m k n sem) (ok : POk G p) (ho : DP X G o i p)
    (ht : eval (.Call (.Attribute o m apos) [] [] pos) X.env = (do
      let ov ← eval o X.env
      standAt apos.atName
      let (f, first) ← holding [ov] (getMethod ov m pl)
      callWith pos f first (backTo pos (starEach [] X.env)) (backToKw pos (keywordEach [] X.env))) := by rfl) : DO X G W C (.Call (.Attribute o m apos) [] [] pos) (callMio0 n ms m i p) := by
  refine PE_imp (pe_methX0 (pl := pl) (E := WE W) ho (fun σ => passAt tk σ) ht) fun σ H Q ⟨F, env, r, q⟩ => ?_
  replace q : pst (RlO G C σ) (exW G W C σ) Q F (callMio0 n ms m i p env) := q
  unfold callMio0 at q
  cases e0 : rdo i p env with
  | none => rw [e0] at q; exact q.elim
  | some t =>
    rw [e0] at q
    simp only at q
    cases ep : pick ms m t with
    | none => rw [ep] at q; exact q.elim
    | some sem =>
      rw [ep] at q
      simp only at q
      obtain ⟨v, w, B, a1, a2, a3, _⟩ := r.own_at ok e0
      obtain ⟨c, ns, ec, hm, hs⟩ := pick_ok ep
      obtain ⟨a, C', dx, fs, e2, e3, e4, e5⟩ := a3.cls r.sub ec hm
      obtain ⟨f, fd, ps, m1, m2, m3, m4⟩ := (h c sem hs).ex C' e3
      rw [← hK] at m1 m2 m3 m4
      refine ⟨v, w, a1, a2, a, C', dx, fs, f, fd, ps, k, _, e2, e4, e5, m1, m2, m3, hr, m4, ?_⟩
      obtain ⟨v', w', k1, k2, k3⟩ := io_run (ds := []) (vs := []) r ok e0 (by simp [DenL]) q
      rw [a1] at k1
      cases k1
      rw [a2.det k2]
      exact k3

/-! ### classes made -/
theorem run_makeS {CX : CXT} {C' f : Addr} {fd : FuncData} {ps : List Str} {sp : Sp} {E : L2.St → XK} {pins : List (Addr × Obj)} {σ : L2.St} {H : Hp} {s : Shared} {Q : VK} {us : List Value} {vs : List V} (M : Mk X.K C' f) (Fn : FnOk X.prog X.w X.K X.mg X.base CX k f fd ps sp) (hr : Room (k + 1) X.A) (hb : Binds X.K fd ps [])
    (hx : PassesAt CX X σ (E σ)) (I : L2.Inv X pins σ H s) (r : Vals vs us)
    (h : ∀ x dx, H x = none → H dx = none → dx ≠ x → sp (.ref x :: vs) (upd (upd H dx (.own x)) x (.ins C' dx [])) (fun v H2 => v = .non ∧ Q (.ref x) H2) (E σ)) :
    wpAny (model X.prog X.w) X.A (call (.ref C') us) (EP X pins σ Q) X.xe s := by
  have hq := h (s.heap.objs.size + 1) s.heap.objs.size (I.hok.fresh (Nat.le_succ _)) (I.hok.fresh (Nat.le_refl _)) (Nat.ne_of_lt (Nat.lt_succ_self _))
  have I2 := Inv.made (C := C') I
  have r2 : Vals (V.ref (s.heap.objs.size + 1) :: vs) (Value.ref (s.heap.objs.size + 1) :: us) := .cons rfl r
  have hl : (Value.ref (s.heap.objs.size + 1) :: us).length = ps.length := by
    have e := r2.length
    rw [Fn.len _ _ _ _ hq] at e
    exact e.symm
  have b := hb _ (Value.ref (s.heap.objs.size + 1) :: us) I2.kIn (by rw [List.append_nil]; exact hl)
  rw [List.append_nil] at b
  refine wpAny_call (make_map (f := f) I.kIn M.makes M.init (beq_iff_eq.mp M.fn) (codeAny_mono (Fn.run _ X.stack _ _ ⟨Value.ref (s.heap.objs.size + 1) :: us, []⟩ (Value.ref (s.heap.objs.size + 1) :: us) _ _ (E σ) (hr.make C' us [])
    (I2.env0.make C' us []) b r2 hq) fun r s' hq' => ?_))
  cases r with
  | error e => exact hx pins _ _ e s' I2 hq'
  | ok fl =>
    cases fl with
    | ret u =>
      obtain ⟨v, H', I3, rv, ev, q3⟩ := I2.after hq'
      subst ev
      exact ⟨rv, ⟨V.ref (s.heap.objs.size + 1), H', I3, rfl, q3⟩⟩
    | next => exact False.elim hq'
    | brk => exact False.elim hq'
    | cont => exact False.elim hq'
theorem pe_makeS {CX : CXT} {C' f : Addr} {fd : FuncData} {ps : List Str} {sp : Sp} {E : L2.St → XK} {t : TA} {q : Pos} (M : Mk X.K C' f) (Fn : FnOk X.prog X.w X.K X.mg X.base CX k f fd ps sp) (hr : Room (k + 1) X.A) (hg : Gl X x) (hm : X.mg x = some (.ref C')) (hb : Binds X.K fd ps []) (hx : ∀ σ, PassesAt CX X σ (E σ))
    (ha : PA X (e :: es) t) (hdb : (x == ("__debug__" : Str)) = false := by decide) (he : starEach (e :: es) X.env = (false, eval e X.env) :: starEach es X.env := by rfl) (hpl : (backTo pos (starEach es X.env)).any (·.1) = false := by rfl) :
    PE X (.Call (.Name x q) (e :: es) [] pos) (fun σ H Q => t σ H fun vs H1 => ∀ x dx, H1 x = none → H1 dx = none → dx ≠ x → sp (.ref x :: vs) (upd (upd H1 dx (.own x)) x (.ins C' dx [])) (fun v H2 => v = .non ∧ Q (.ref x) H2) (E σ)) := by
  refine ⟨fun pins s σ H Q I h => ?_⟩
  refine wpAny_Call_Name_kw (ld_glob I hg hm ?_ hdb)
  refine PySem.W.callWith_K (h₀ := X.base) I.ok.mod.kin M.kp (thn (ha.run pos pins s σ H _ I h) fun us s1 ⟨vs, H1, I1, r, q⟩ => ⟨I1.kIn, ?_⟩) he hpl
  exact run_makeS M Fn hr hb (hx σ) I1 r q
theorem pe_makeS0 {CX : CXT} {C' f : Addr} {fd : FuncData} {ps : List Str} {sp : Sp} {E : L2.St → XK} {q : Pos} (M : Mk X.K C' f) (Fn : FnOk X.prog X.w X.K X.mg X.base CX k f fd ps sp) (hr : Room (k + 1) X.A) (hg : Gl X x) (hm : X.mg x = some (.ref C')) (hb : Binds X.K fd ps []) (hx : ∀ σ, PassesAt CX X σ (E σ))
    (hdb : (x == ("__debug__" : Str)) = false := by decide) :
    PE X (.Call (.Name x q) [] [] pos) (fun σ H Q => ∀ x dx, H x = none → H dx = none → dx ≠ x → sp [.ref x] (upd (upd H dx (.own x)) x (.ins C' dx [])) (fun v H2 => v = .non ∧ Q (.ref x) H2) (E σ)) := by
  refine ⟨fun pins s σ H Q I h => ?_⟩
  refine wpAny_Call_Name_kw (ld_glob I hg hm ?_ hdb)
  exact PySem.W.callWith_K0 I.kIn M.kp (run_makeS (us := []) M Fn hr hb (hx σ) I .nil h)
def isNon : T → Bool
  | .fz .non => true
  | _ => false
def afterMk (n c : Nat) (sem : List T → FO) (env : Env) (ds : List D) : Out T :=
  match fo n sem (.ins c [] :: ds.map T.fz) with
  | .ok r (some t' :: _) => if isNon r = true then .ok t' env else .fail
  | .exc x => .exc x env
  | _ => .fail
def callC (n c : Nat) (sem : List T → FO) (gs : Env → Out (List D)) (env : Env) : Out T := (gs env).bind fun ds e => afterMk n c sem e ds
theorem make_run {F H : Hp} {σ : L2.St} {env : Env} {Q : VK} {ds : List D} {vs : List V} {c : Nat} {C' : Addr} (r : Rep G C F H σ env) (hc : G.ct c = some C') (dv : DenL G F ds vs) (h : pst (RlO G C σ) (exW G W C σ) Q F (afterMk n c sem env ds)) :
    ∀ x dx, H x = none → H dx = none → dx ≠ x → spD G n sem (.ref x :: vs) (upd (upd H dx (.own x)) x (.ins C' dx [])) (fun v H2 => v = .non ∧ Q (.ref x) H2) (fun cls d H' => W cls d σ H') := by
  intro x dx hx hdx ne
  have hnx : ∀ b o, H b = some o → (upd (upd H dx (.own x)) x (.ins C' dx [])) b = some o := fun b o e => by
    rw [upd_ne (ne_of_none e hx), upd_ne (ne_of_none e hdx)]
    exact e
  have fx : F x = none := by
    cases e : F x with
    | none => rfl
    | some u => rw [r.sub x u e] at hx; cases hx
  have s0 : Step [] F H F (upd (upd H dx (.own x)) x (.ins C' dx [])) := ⟨.refl F, fun b o e => .inl ⟨o, e⟩, fun b o e _ => .inl (hnx b o e), fun P q t => t.to (.refl F) fun ps e1 e2 => ⟨e1, hnx _ _ e2⟩⟩
  have sub0 : Sub F (upd (upd H dx (.own x)) x (.ins C' dx [])) := fun b o e => hnx b o (r.sub b o e)
  have back0 : ∀ b, (upd (upd H dx (.own x)) x (.ins C' dx [])) b = none → H b = none := fun b e => by
    cases q : H b with
    | none => rfl
    | some o => rw [hnx b o q] at e; cases e
  unfold afterMk fo at h
  by_cases hl : (T.ins c [] :: ds.map T.fz).length = n
  · rw [if_pos hl] at h
    have mx : ∀ {b : Addr}, b ∈ [x] ∨ (upd (upd H dx (.own x)) x (.ins C' dx [])) b = none → H b = none := fun {b} hb => by
      rcases hb with hb | hb
      · rw [List.mem_singleton] at hb; rw [hb]; exact hx
      · exact back0 b hb
    have go : ∀ {F' H' : Hp}, Step [x] F (upd (upd H dx (.own x)) x (.ins C' dx [])) F' H' → Sub F' H' → Step [] F H F' H' := fun {F' H'} st sub => by
      refine ⟨st.gr, fun b o e => ?_, fun b o e _ => ?_, fun P q t => st.tab P q (t.to (.refl F) fun ps e1 e2 => ⟨e1, hnx _ _ e2⟩)⟩
      · rcases st.new b o e with q | q | q | ⟨xs, q⟩
        · exact .inl q
        · exact .inr (.inr (.inl (mx (.inl q))))
        · exact .inr (.inr (.inl (mx (.inr q))))
        · cases z : H b with
          | none => exact .inr (.inr (.inl rfl))
          | some o1 =>
            have := hnx b o1 z
            rw [q] at this
            exact .inr (.inr (.inr ⟨xs, this.symm⟩))
      · have nb : b ∉ [x] := fun z => by
          rw [List.mem_singleton] at z
          rw [z, hx] at e; cases e
        exact st.keep b o (hnx b o e) nb
    refine ⟨F, T.ins c [] :: ds.map T.fz, [x], fun j => if j = 0 then [x] else [], sub0, fun p hp => (r.tb p hp).to (.refl F) fun ps e1 e2 => ⟨e1, hnx _ _ e2⟩, hl, by rw [← hl]; simp [dv.len], ⟨fun j tj e => ?_, fun j k nejk _ _ a ha => ?_⟩, ?_⟩
    · cases j with
      | zero =>
        simp only [List.getElem?_cons_zero, Option.some.injEq] at e
        subst e
        refine ⟨.ref x, rfl, ?_, by simp, fun a z => by simpa using z⟩
        simp only [Own]
        exact ⟨x, C', dx, [], [], rfl, rfl, hc, fx, upd_same, by simp [OwnF]⟩
      | succ j =>
        simp only [List.getElem?_cons_succ] at e ⊢
        obtain ⟨v, h1, h2⟩ := args_fz (H := upd (upd H dx (.own x)) x (.ins C' dx [])) dv j tj e
        exact ⟨v, h1, by simpa using h2, by simp, fun _ z => by simp at z⟩
    · by_cases q : j = 0
      · have : k ≠ 0 := fun z => nejk (q.trans z.symm)
        show a ∉ (if k = 0 then [x] else [])
        rw [if_neg this]
        exact fun z => nomatch z
      · have ha : a ∈ (if j = 0 then [x] else []) := ha
        rw [if_neg q] at ha
        cases ha
    · cases e : sem (T.ins c [] :: ds.map T.fz) with
      | fail => rw [e] at h; exact h.elim
      | exc x =>
        rw [e] at h
        intro cls dd F' H' st sub dx
        exact h cls dd H' F' st.gr (r.step0 (go st sub) sub) dx
      | ok rr ts' =>
        rw [e] at h
        intro v F' H' st sub ⟨fp', Br, h1, h2, h3, h4, h5⟩
        cases ts' with
        | nil => exact h.elim
        | cons o r' =>
          cases o with
          | none => exact h.elim
          | some t' =>
            simp only at h
            split at h
            · rename_i hn
              have hv : v = .non := by
                cases rr with
                | fz d =>
                  cases d with
                  | non =>
                    simp only [Own, Den] at h3
                    exact h3.2
                  | _ => simp [isNon] at hn
                | _ => simp [isNon] at hn
              refine ⟨hv, ?_⟩
              obtain ⟨w', e1, o1, n1, m1, d1⟩ := h1 0 t' rfl
              simp only [List.getElem?_cons_zero, Option.some.injEq] at e1
              subst e1
              refine h _ H' F' st.gr ?_
              have rr' := r.step0 (go st sub) sub
              obtain ⟨fp, rf⟩ := r
              refine ⟨fp, fp' 0, rf.step (go st sub) sub (fun _ _ _ _ _ z => nomatch z) (fun _ z => nomatch z), o1, n1, fun a ha => rf.st.back (mx (m1 a ha)), fun i ti ei a ha z => ?_⟩
              obtain ⟨u, _, ou⟩ := rf.own i ti ei
              obtain ⟨_, o2, e2⟩ := ou.mem a ha
              rw [mx (m1 a z)] at e2; cases e2
            · exact h.elim
  · rw [if_neg hl] at h
    exact h.elim
theorem do_make {c : Nat} {q : Pos} (tk : Takes X W) (hK : X.K = G.K) (h : HasC X.prog X.w G X.mg X.base x c k n sem) (hr : Room (k + 1) X.A) (hg : Gl X x) (ha : DA X G W C (e :: es) gs) (hdb : (x == ("__debug__" : Str)) = false := by decide)
    (he : starEach (e :: es) X.env = (false, eval e X.env) :: starEach es X.env := by rfl) (hpl : (backTo pos (starEach es X.env)).any (·.1) = false := by rfl) : DO X G W C (.Call (.Name x q) (e :: es) [] pos) (callC n c sem gs) := by
  obtain ⟨C', f, fd, ps, h0, h1, h2, h3, h4⟩ := h.ex
  rw [← hK] at h2 h3 h4
  exact PE_imp (pe_makeS (E := WE W) h2 h3 hr hg h1 h4 (fun σ => passAt tk σ) ha hdb he hpl) fun σ H Q ⟨F, env, r, q⟩ => ⟨F, env, r, pst_bind q fun ds e1 vs H1 F1 g1 r1 q1 => make_run r1.1 h0 r1.2 q1⟩
end
end DL

end
section
namespace DL
open PySem PySem.Spec PyProof.Rows L2
variable [TB]
theorem upd_step {F H : Hp} {a : Addr} {o : HO} (f : F a = none) (s : Sub F H) (nt : ∀ ps, H a ≠ some (.tbl ps)) : Step [a] F H F (upd H a o) ∧ Sub F (upd H a o) := by
  refine ⟨⟨.refl F, fun b u e => .inl ⟨u, e⟩, fun b u e hb => .inl ?_, fun P q t => t.to (.refl F) fun ps e1 e2 => ⟨e1, by rw [upd_ne (fun z => nt ps (by rw [← z]; exact e2))]; exact e2⟩⟩, fun b u e => ?_⟩
  · rw [upd_ne (by simpa using hb)]; exact e
  · rw [upd_ne (ne_of_none e f)]; exact s b u e
theorem set_self {σ : L2.St} {i : Nat} {v : V} (h : σ[i]? = some (some v)) : σ.set i (some v) = σ := by
  apply List.ext_getElem?
  intro j
  by_cases q : j = i
  · subst q
    rw [List.getElem?_set_self (List.getElem?_eq_some_iff.mp h).1, h]
  · rw [List.getElem?_set_ne (Ne.symm q)]
section
variable {X : Cx} {G : Tx} {W : WX} {C : DCtx} {a b e o value : Expr} {ga gb gi : Env → Out D} {go : Env → Out T} {pos apos cpos pos' tpos : Pos} {i k n : Nat} {p : Pth} {x f : Str} {F H : Hp} {σ : L2.St} {env : Env}
theorem Own.lst_inv {F H : Hp} {ds : List D} {w : V} {B : List Addr} (h : Own G F H (.lst ds) w B) : ∃ a vs, w = .ref a ∧ B = [a] ∧ F a = none ∧ H a = some (.lst vs) ∧ DenL G F ds vs := by
  simp only [Own] at h; exact h
/-- a list of one's own at a place -/
theorem Rep.lst_at {ds : List D} (r : Rep G C F H σ env) (ok : POk G p) (e : rdo i p env = some (.lst ds)) :
    ∃ v a vs, σ[i]? = some (some v) ∧ Rch G H v p (.ref a) ∧ F a = none ∧ H a = some (.lst vs) ∧ DenL G F ds vs ∧ C.mine [a] ∧
      ∀ {vs' : List V} {ds' : List D}, DenL G F ds' vs' → ∃ env', putG i p (.lst ds') env = some env' ∧ Rep G C F (upd H a (.lst vs')) σ env' := by
  obtain ⟨v, w, B, h1, h2, h3, h4, _, mi, h5⟩ := r.own_at ok e
  obtain ⟨a, vs, rfl, rfl, f, h6, h7⟩ := h3.lst_inv
  refine ⟨v, a, vs, h1, h2, f, h6, h7, mi, fun {vs' ds'} d => ?_⟩
  obtain ⟨s, sub⟩ := upd_step (o := .lst vs') f r.sub (fun ps z => by rw [h6] at z; cases z)
  obtain ⟨env', e1, k⟩ := h5 (t' := .lst ds') (B' := [a]) s (fun _ z => z) sub (by simp only [Own]; exact ⟨a, vs', rfl, rfl, f, upd_same, d⟩) (by simp) (fun b hb => .inl hb)
  exact ⟨env', e1, (k (u := .fz .non) (y := .non) (Br := []) (by simp [Own, Den]) List.nodup_nil (fun _ z => nomatch z) (fun _ z => nomatch z)).rep⟩
/-- the reading of an expression that looks only -/
def dPur (G : Tx) (W : WX) (C : DCtx) (g : Env → Out D) : TE := fun σ H Q => ∃ F env, Rep G C F H σ env ∧ pst (fun d F' H' _ v => Lay F H F' H' ∧ Den G F' d v) (exW G W C σ) Q F (pur g env)
theorem pe_pur (h : ∀ C', C'.pv = [] → DE X G W C' e ga) : PE X e (dPur G W C ga) := by
  refine ⟨fun pins s σ H Q I ⟨F, env, r, q⟩ => ?_⟩
  obtain ⟨F1, env1, r1, q1⟩ := pure_run (P := fun d F' v => Den G F' d v) r q
  exact (h (pureC F H σ env) rfl).run pins s σ H Q I ⟨F1, env1, r1, q1⟩
def dPurA (G : Tx) (W : WX) (C : DCtx) (g : Env → Out (List D)) : TA := fun σ H Q => ∃ F env, Rep G C F H σ env ∧ pst (fun d F' H' _ v => Lay F H F' H' ∧ DenL G F' d v) (exW G W C σ) Q F (pur g env)
theorem pa_pur {es : List Expr} {gs : Env → Out (List D)} (h : ∀ C', C'.pv = [] → DA X G W C' es gs) : PA X es (dPurA G W C gs) := by
  refine ⟨fun pos' pins s σ H Q I ⟨F, env, r, q⟩ => ?_⟩
  obtain ⟨F1, env1, r1, q1⟩ := pure_run (P := fun d F' v => DenL G F' d v) r q
  exact (h (pureC F H σ env) rfl).run pos' pins s σ H Q I ⟨F1, env1, r1, q1⟩
theorem pur_same {α : Type} {g : Env → Out α} {env e : Env} {a : α} (h : pur g env = .ok a e) : e = env := by
  unfold pur at h
  split at h <;> cases h
  rfl
/-- from what a statement wants to what an expression within wants -/
theorem pS_pur {α β : Type} {N : Ends} {R1 : α → Hp → β → Prop} {R : β → Hp → Prop} {g : Env → Out α} {k : α → Env → Out Fl} (h : pS G W C N F ((pur g env).bind k)) (hR : ∀ d v H' F', Lay F H F' H' → R1 d F' v → pS G W C N F' (k d env) → R v H') :
    pst (fun d F' H' _ v => Lay F H F' H' ∧ R1 d F' v) (exW G W C σ) R F (pur g env) := by
  cases eg : pur g env with
  | fail => rw [eg] at h; exact h
  | exc x e => rw [eg] at h; exact fun cls dd H' F' g r dx => h cls dd σ H' F' g r dx
  | ok d e =>
    have he := pur_same eg
    subst he
    rw [eg] at h
    exact fun v H' F' g ⟨l, r⟩ => hR d v H' F' l r (pS.gr (show pS G W C N F (k d e) from h) g)
theorem pst_pur {α β α' β' : Type} {R1 : α → Hp → β → Prop} {R2 : α' → Hp → Hp → Env → β' → Prop} {Q : β' → Hp → Prop} {R : β → Hp → Prop} {g : Env → Out α} {k : α → Env → Out α'} (h : pst R2 (exW G W C σ) Q F ((pur g env).bind k))
    (hR : ∀ d v H' F', Lay F H F' H' → R1 d F' v → pst R2 (exW G W C σ) Q F' (k d env) → R v H') : pst (fun d F' H' _ v => Lay F H F' H' ∧ R1 d F' v) (exW G W C σ) R F (pur g env) := by
  cases eg : pur g env with
  | fail => rw [eg] at h; exact h
  | exc x e => rw [eg] at h; exact h
  | ok d e =>
    have he := pur_same eg
    subst he
    rw [eg] at h
    exact fun v H' F' g ⟨l, r⟩ => hR d v H' F' l r (pst.gr (show pst R2 (exW G W C σ) Q F (k d e) from h) g)
/-! ### append -/
def appG (i : Nat) (p : Pth) (ga : Env → Out D) (env : Env) : Out Fl :=
  match rdo i p env with
  | some (.lst ds) => (pur ga env).bind fun d e => if ds.length < sizeLine then (match putG i p (.lst (ds ++ [d])) e with
    | some e' => .ok .nx e'
    | none => .fail) else .fail
  | _ => .fail
theorem DenL.app : ∀ {ds es : List D} {vs ws : List V}, DenL G F ds vs → DenL G F es ws → DenL G F (ds ++ es) (vs ++ ws)
  | [], es, vs, ws, h, h' => by
    simp only [DenL] at h
    rw [h]; exact h'
  | d :: ds, es, vs, ws, h, h' => by
    simp only [DenL] at h
    obtain ⟨v, r, rfl, h1, h2⟩ := h
    simp only [List.cons_append, DenL]
    exact ⟨v, _, rfl, h1, h2.app h'⟩
theorem DenL.one {d : D} {v : V} (h : Den G F d v) : DenL G F [d] [v] := by
  simp only [DenL]; exact ⟨v, [], rfl, h, rfl⟩
theorem DenL.at_ : ∀ {ds : List D} {vs : List V} {j : Nat} {d : D}, DenL G F ds vs → ds[j]? = some d → ∃ v, vs[j]? = some v ∧ Den G F d v
  | [], vs, j, d, h, e => by simp at e
  | d0 :: ds, vs, j, d, h, e => by
    simp only [DenL] at h
    obtain ⟨v, r, rfl, h1, h2⟩ := h
    cases j with
    | zero => simp only [List.getElem?_cons_zero, Option.some.injEq] at e; subst e; exact ⟨v, rfl, h1⟩
    | succ j => simp only [List.getElem?_cons_succ] at e ⊢; exact h2.at_ e
theorem DenL.setD : ∀ {ds : List D} {vs : List V} {d : D} {v : V} (j : Nat), DenL G F ds vs → Den G F d v → DenL G F (ds.set j d) (vs.set j v)
  | [], vs, d, v, j, h, hd => by simp only [DenL] at h; rw [h]; simp [DenL]
  | d0 :: ds, vs, d, v, j, h, hd => by
    simp only [DenL] at h
    obtain ⟨w, r, rfl, h1, h2⟩ := h
    cases j with
    | zero => simp only [List.set_cons_zero, DenL]; exact ⟨v, r, rfl, hd, h2⟩
    | succ j => simp only [List.set_cons_succ, DenL]; exact ⟨w, _, rfl, h1, h2.setD j hd⟩
theorem DenL.takeD : ∀ {ds : List D} {vs : List V} (j : Nat), DenL G F ds vs → DenL G F (ds.take j) (vs.take j)
  | ds, vs, 0, h => by simp [DenL]
  | [], vs, j + 1, h => by simp only [DenL] at h; rw [h]; simp [DenL]
  | d0 :: ds, vs, j + 1, h => by
    simp only [DenL] at h
    obtain ⟨w, r, rfl, h1, h2⟩ := h
    simp only [List.take_succ_cons, DenL]
    exact ⟨w, _, rfl, h1, h2.takeD j⟩
theorem DenL.dropD : ∀ {ds : List D} {vs : List V} (j : Nat), DenL G F ds vs → DenL G F (ds.drop j) (vs.drop j)
  | ds, vs, 0, h => by simpa using h
  | [], vs, j + 1, h => by simp only [DenL] at h; rw [h]; simp [DenL]
  | d0 :: ds, vs, j + 1, h => by
    simp only [DenL] at h
    obtain ⟨w, r, rfl, h1, h2⟩ := h
    simp only [List.drop_succ_cons]
    exact h2.dropD j
theorem DenL.eraseD : ∀ {ds : List D} {vs : List V} (j : Nat), DenL G F ds vs → DenL G F (ds.eraseIdx j) (vs.eraseIdx j)
  | [], vs, j, h => by simp only [DenL] at h; rw [h]; simp [DenL]
  | d0 :: ds, vs, 0, h => by
    simp only [DenL] at h
    obtain ⟨w, r, rfl, h1, h2⟩ := h
    simpa using h2
  | d0 :: ds, vs, j + 1, h => by
    simp only [DenL] at h
    obtain ⟨w, r, rfl, h1, h2⟩ := h
    simp only [List.eraseIdx_cons_succ, DenL]
    exact ⟨w, _, rfl, h1, h2.eraseD j⟩
theorem DenL.lastD {ds : List D} {vs : List V} (h : DenL G F ds vs) : DenL G F ds.dropLast vs.dropLast := by
  rw [List.dropLast_eq_take, List.dropLast_eq_take, h.len]
  exact h.takeD _
theorem ds_append (ok : POk G p) (hp : DP X G o i p) (he : ∀ C', C'.pv = [] → DE X G W C' e ga) (hbase : attributeBase o "append" X.env (eval o X.env) = eval o X.env := by rfl)
    (hfew : ((backTo cpos (starEach [e] X.env)).all (fun x => !x.1) && (backToKw cpos (keywordEach [] X.env)).all (fun x => x.1.isSome)
      && decide (([e] : List Expr).length + ([] : List Keyword).length + (if ([] : List Keyword).isEmpty then 0 else 1) < 30)) = true := by rfl)
    (hline : (apos.endLine == cpos.line) = true := by rfl) (hst : starEach [e] X.env = (false, eval e X.env) :: starEach [] X.env := by rfl) (hplain : (backTo cpos (starEach [] X.env)).any (·.1) = false := by rfl)
    (hs : swapsWith (.Call (.Attribute o "append" apos) [e] [] cpos) none pos.line X.env = pure false := by rfl) :
    DS X G W C (.Expr (.Call (.Attribute o "append" apos) [e] [] cpos) pos) (appG i p ga) := by
  refine PS_imp (ps_expr (pe_bm PySem.F.plainAttrs_list PySem.F.slot_list_append PySem.F.type_list_append mt_append hp (pa_cons (pe_pur (C := C) he) pa_nil hst) hbase hfew hline hst hplain) hs) fun N σ H ⟨F, env, r, q⟩ => ?_
  unfold appG at q
  split at q
  · rename_i ds e0
    obtain ⟨v, a, vs, h1, h2, h3, h4, h5, mi, _⟩ := r.lst_at ok e0
    refine ⟨v, _, h1, h2, .inl ⟨rfl, vs, SqL.of h4⟩, F, env, r, pS_pur q fun d y H1 F1 l dy q1 => ?_⟩
    obtain ⟨v', a', vs', k1, k2, k3, k4, k5, _, k6⟩ := (r.lay l).lst_at ok e0
    rw [h1] at k1; cases k1
    obtain rfl : a = a' := by have := (rdo_dropped h2 l).det k2; cases this; rfl
    split at q1
    · rename_i hl
      obtain ⟨env', e1, r'⟩ := k6 (k5.app (DenL.one dy))
      rw [e1] at q1
      refine ⟨a, vs', y, rfl, rfl, k4, by rw [k5.len]; exact hl, ?_⟩
      exact q1 σ _ F1 (.refl F1) r'
    · exact q1.elim
  · exact q.elim
/-! ### x += list -/
def augG (i : Nat) (ga : Env → Out D) (env : Env) : Out Fl :=
  match rdo i [] env with
  | some (.lst ds) => (pur ga env).bind fun d e => match d with
    | .lst es => if ds.length + es.length ≤ sizeLine then (match putG i [] (.lst (ds ++ es)) e with
      | some e' => .ok .nx e'
      | none => .fail) else .fail
    | _ => .fail
  | _ => .fail
theorem ds_augL (hN : X.N.Nodup) (hi : X.N[i]? = some x) (hx : Loc X.env.scope x) (he : ∀ C', C'.pv = [] → DE X G W C' e ga) (hf : X.fn x = true ∨ X.env.scope.names.lookup x = some .local := by first | exact .inl rfl | exact .inr rfl | assumption) :
    DS X G W C (.AugAssign (.Name x pos') .Add e pos) (augG i ga) := by
  refine PS_imp (ps_aug hN hi hx (pe_pur (C := C) he) (ti := rExt2) iop_ext hf) fun N σ H ⟨F, env, r, q⟩ => ?_
  unfold augG at q
  split at q
  · rename_i ds e0
    have ok : POk G [] := fun _ z => nomatch z
    obtain ⟨v, a, vs, h1, h2, h3, h4, h5, mi, _⟩ := r.lst_at ok e0
    refine ⟨v, h1, F, env, r, pS_pur q fun d y H1 F1 l dy q1 => ?_⟩
    obtain ⟨v', a', vs', k1, k2, k3, k4, k5, _, k6⟩ := (r.lay l).lst_at ok e0
    rw [h1] at k1; cases k1
    obtain rfl : V.ref a' = v := k2
    cases d with
    | lst es =>
      simp only [Den] at dy
      obtain ⟨b, ws, rfl, f1, f2⟩ := dy
      simp only at q1
      split at q1
      · rename_i hl
        obtain ⟨env', e1, r'⟩ := k6 (k5.app f2)
        rw [e1] at q1
        refine ⟨a', b, vs', ws, rfl, rfl, k4, l.sub b _ f1, by rw [k5.len, f2.len]; exact hl, ?_⟩
        show N.nx (σ.set i (some (V.ref a'))) _
        rw [set_self h1]
        exact q1 σ _ F1 (.refl F1) r'
      · exact q1.elim
    | _ => exact q1.elim
  · exact q.elim
/-! ### P[j] = value -/
def setG (i : Nat) (p : Pth) (gv gi : Env → Out D) (env : Env) : Out Fl := (gv env).bind fun d e => match rdo i p e with
  | some (.lst ds) => (pur gi e).bind fun j e => match j with
    | .int j => match ixN ds.length j with
      | some m => (match putG i p (.lst (ds.set m d)) e with
        | some e' => .ok .nx e'
        | none => .fail)
      | none => .fail
    | _ => .fail
  | _ => .fail
theorem ds_setI {gv : Env → Out D} (ok : POk G p) (hp : DP X G o i p) (hi : ∀ C', C'.pv = [] → DE X G W C' b gi) (hv : DE X G W C value gv)
    (ha : ∀ v, assign (.Subscript o b pos') X.env v = (do
      let ov ← holding [v] (eval o X.env)
      let iv ← holding [v, ov] (eval b X.env)
      standAt pos'
      holding [v, ov, iv] (setItem ov iv v)
      release [v, ov, iv] []) := by intro _; rfl) (hs : swapsWithSole [.Subscript o b pos'] value pos.line X.env = pure false := by rfl) (hw : swappedStores [.Subscript o b pos'] value X.env = pure none := by rfl)
    (h1 : (assignEach [.Subscript o b pos'] X.env).map (·.2) = [assign (.Subscript o b pos') X.env] := by rfl) : DS X G W C (.Assign [.Subscript o b pos'] value pos) (setG i p gv gi) := by
  refine PS_imp (ps_asg hv (pg_sub hp (pe_pur (C := C) hi) set_list ha) hs hw h1) fun N σ H ⟨F, env, r, q⟩ => ⟨F, env, r, pS_bind q fun d e1 y H1 F1 g1 r1 q1 => ?_⟩
  split at q1
  · rename_i ds e0
    obtain ⟨v, a, vs, k1, k2, k3, k4, k5, mi, _⟩ := r1.1.lst_at ok e0
    refine ⟨v, _, k1, k2, F1, e1, r1.1, pS_pur q1 fun j w H2 F2 l dj q2 => ?_⟩
    obtain ⟨v', a', vs', m1, m2, m3, m4, m5, _, m6⟩ := (r1.1.lay l).lst_at ok e0
    rw [k1] at m1; cases m1
    obtain rfl : a = a' := by have := (rdo_dropped k2 l).det m2; cases this; rfl
    cases j with
    | int j =>
      simp only [Den] at dj
      simp only at q2
      split at q2
      · rename_i m em
        obtain ⟨env', e2, r'⟩ := m6 (m5.setD m (r1.2.gr l.gr))
        rw [e2] at q2
        exact ⟨a, vs', j, m, rfl, dj, m4, by rw [m5.len]; exact em, q2 σ _ F2 (.refl F2) r'⟩
      · exact q2.elim
    | _ => exact q2.elim
  · exact q1.elim
/-! ### pop -/
def popG (i : Nat) (p : Pth) (env : Env) : Out D :=
  match rdo i p env with
  | some (.lst ds) => match ds[ds.length - 1]? with
    | some d => (match putG i p (.lst ds.dropLast) env with
      | some e' => .ok d e'
      | none => .fail)
    | none => .fail
  | _ => .fail
theorem de_pop (ok : POk G p) (hp : DP X G o i p) (hbase : attributeBase o "pop" X.env (eval o X.env) = eval o X.env := by rfl) (hline : (apos.endLine == cpos.line) = true := by rfl) : DE X G W C (.Call (.Attribute o "pop" apos) [] [] cpos) (popG i p) := by
  refine PE_imp (pe_bm0 PySem.F.plainAttrs_list PySem.F.slot_list_pop PySem.F.type_list_pop mt_pop hp hbase hline) fun σ H Q ⟨F, env, r, q⟩ => ?_
  unfold popG at q
  split at q
  · rename_i ds e0
    obtain ⟨v, a, vs, h1, h2, h3, h4, h5, mi, h6⟩ := r.lst_at ok e0
    split at q
    · rename_i d ed
      obtain ⟨y, hy, dy⟩ := h5.at_ ed
      obtain ⟨env', e1, r'⟩ := h6 h5.lastD
      rw [e1] at q
      exact ⟨v, _, h1, h2, .inl ⟨rfl, vs, SqL.of h4⟩, a, vs, y, rfl, rfl, h4, by rw [h5.len]; exact hy, q y _ F (.refl F) ⟨r', dy⟩⟩
    · exact q.elim
  · exact q.elim
def popG0 (i : Nat) (p : Pth) (env : Env) : Out D :=
  match rdo i p env with
  | some (.lst (d :: ds)) => (match putG i p (.lst ds) env with
      | some e' => .ok d e'
      | none => .fail)
  | _ => .fail
theorem de_pop0 {j : Nat} {p2 : Pos} (ok : POk G p) (hp : DP X G o i p) (hbase : attributeBase o "pop" X.env (eval o X.env) = eval o X.env := by rfl)
    (hfew : ((backTo cpos (starEach [.Constant (.int 0) j p2] X.env)).all (fun x => !x.1) && (backToKw cpos (keywordEach [] X.env)).all (fun x => x.1.isSome)
      && decide (([.Constant (.int 0) j p2] : List Expr).length + ([] : List Keyword).length + (if ([] : List Keyword).isEmpty then 0 else 1) < 30)) = true := by rfl)
    (hline : (apos.endLine == cpos.line) = true := by rfl) (hst : starEach [.Constant (.int 0) j p2] X.env = (false, eval (.Constant (.int 0) j p2) X.env) :: starEach [] X.env := by rfl) (hplain : (backTo cpos (starEach [] X.env)).any (·.1) = false := by rfl) :
    DE X G W C (.Call (.Attribute o "pop" apos) [.Constant (.int 0) j p2] [] cpos) (popG0 i p) := by
  refine PE_imp (pe_bm PySem.F.plainAttrs_list PySem.F.slot_list_pop PySem.F.type_list_pop mt_popAt hp (pa_cons pe_int pa_nil hst) hbase hfew hline hst hplain) fun σ H Q ⟨F, env, r, q⟩ => ?_
  unfold popG0 at q
  split at q
  · rename_i d ds e0
    obtain ⟨v, a, vs, h1, h2, h3, h4, h5, mi, h6⟩ := r.lst_at ok e0
    simp only [DenL] at h5
    obtain ⟨y, vr, rfl, dy, dr⟩ := h5
    obtain ⟨env', e1, r'⟩ := h6 dr
    rw [e1] at q
    refine ⟨v, _, h1, h2, .inl ⟨rfl, _, SqL.of h4⟩, a, y :: vr, 0, 0, y, rfl, rfl, h4, by decide, by decide, ?_, rfl, ?_⟩
    · simp [seqIndex?]
    · exact q y _ F (.refl F) ⟨by simpa using r', dy⟩
  · exact q.elim
/-! ### P[j] -/
def ixG (i : Nat) (p : Pth) (gi : Env → Out D) (env : Env) : Out D :=
  match rdp i p env with
  | some (.lst ds) => (pur gi env).bind fun j e => match j with
    | .int j => (match atI ds j with
      | some d => .ok d e
      | none => .fail)
    | _ => .fail
  | _ => .fail
theorem atI_den {ds : List D} {vs : List V} {j : Int} {d : D} (h : DenL G F ds vs) (e : atI ds j = some d) : ∃ v, atI vs j = some v ∧ Den G F d v := by
  unfold atI at e ⊢
  rw [h.len]
  cases q : ixN ds.length j with
  | none => rw [q] at e; cases e
  | some m => rw [q] at e; exact h.at_ e
theorem de_pix (hK : X.K = G.K) (ok : POk G p) (hp : DP X G o i p) (hi : ∀ C', C'.pv = [] → DE X G W C' b gi) (hpl : PlainIx b := by exact fun _ _ => rfl) : DE X G W C (.Subscript o b pos) (ixG i p gi) := by
  refine PE_imp (pe_ix ix_list hp (pe_pur (C := C) hi) hpl) fun σ H Q ⟨F, env, r, q⟩ => ?_
  unfold ixG at q
  split at q
  · rename_i ds e0
    obtain ⟨v, w, B, h1, h2, h3⟩ := r.place ok e0
    obtain ⟨a, vs, rfl, rfl, f, h4, h5⟩ := h3.lst_inv
    refine ⟨v, _, h1, h2, F, env, r, pst_pur q fun j y H1 F1 l dj q1 => ?_⟩
    cases j with
    | int j =>
      simp only [Den] at dj
      simp only at q1
      split at q1
      · rename_i d ed
        obtain ⟨y', e1, dy⟩ := atI_den h5 ed
        have h4' : H1 a = some (.lst vs) := by
          rcases l.st.keep a _ h4 (fun z => nomatch z) with z | ⟨⟨_, z⟩, _⟩ | ⟨_, _, z, _⟩
          · exact z
          · rw [f] at z; cases z
          · cases z
        exact ⟨a, vs, j, y', rfl, dj, SqL.of h4', e1, q1 y' H1 F1 (.refl F1) ⟨r.lay l, dy.gr l.gr⟩⟩
      · exact q1.elim
    | _ => exact q1.elim
  · exact q.elim
end
end DL

end
section
namespace DL
open PySem PySem.Spec PyProof.Rows L2
variable [TB]
/-! ### targets: vs the slots they store -/
def dG (G : Tx) (C : DCtx) (vs : List Nat) (gt : D → Env → Option Env) : TG := fun v σ H Q => ∃ F d env env', Rep G C F H σ env ∧ Den G F d v ∧ gt d env = some env' ∧
  ∀ σ' H' F', Gr F F' → Lay F H F' H' → Rep G C F' H' σ' env' → σ'.length = σ.length → (∀ j, j ∉ vs → σ'[j]? = σ[j]?) → Q σ' H'
def dGs (G : Tx) (C : DCtx) (vs : List Nat) (gt : List D → Env → Option Env) : TGs := fun ws σ H Q => ∃ F ds env env', Rep G C F H σ env ∧ DenL G F ds ws ∧ gt ds env = some env' ∧
  ∀ σ' H' F', Gr F F' → Lay F H F' H' → Rep G C F' H' σ' env' → σ'.length = σ.length → (∀ j, j ∉ vs → σ'[j]? = σ[j]?) → Q σ' H'
abbrev DG (X : Cx) (G : Tx) (C : DCtx) (e : Expr) (vs : List Nat) (g : D → Env → Option Env) : Prop := PG X e (dG G C vs g)
abbrev DGs (X : Cx) (G : Tx) (C : DCtx) (es : List Expr) (vs : List Nat) (g : List D → Env → Option Env) : Prop := PGs X es (dGs G C vs g)
theorem PG_imp {X : Cx} {e : Expr} {t t' : TG} (h : PG X e t) (k : ∀ v σ H Q, t' v σ H Q → t v σ H Q) : PG X e t' := ⟨fun pins s σ H v u Q I r w => h.run pins s σ H v u Q I r (k v σ H Q w)⟩
theorem PGs_imp {X : Cx} {e : List Expr} {t t' : TGs} (h : PGs X e t) (k : ∀ v σ H Q, t' v σ H Q → t v σ H Q) : PGs X e t' := ⟨fun pins s σ H v u Q I r w => h.run pins s σ H v u Q I r (k v σ H Q w)⟩
section
variable {X : Cx} {G : Tx} {W : WX} {C : DCtx} {a b e : Expr} {es : List Expr} {pos : Pos} {x : Str} {vs ws : List Nat}
def gtN (i : Nat) (d : D) (env : Env) : Option Env := some (env.set i (some (.own (.fz d))))
theorem dg_name {i : Nat} (hp : ∀ w, (i, w) ∉ C.pv) (hN : X.N.Nodup) (hi : X.N[i]? = some x) (hx : Loc X.env.scope x) (hf : X.fn x = true ∨ X.env.scope.names.lookup x = some .local := by first | exact .inl rfl | exact .inr rfl | assumption) : DG X G C (.Name x pos) [i] (gtN i) :=
  PG_imp (pg_name hN hi hx hf) fun v σ H Q ⟨F, d, env, env', r, dv, e, k⟩ => by
    cases e
    exact k _ H F (.refl F) (Lay.refl r.sub) (RepV.set (r.fz dv) hp) (by simp) fun j hj => List.getElem?_set_ne (fun z => hj (by simp [z]))
def gtNil (ds : List D) (env : Env) : Option Env := match ds with
  | [] => some env
  | _ => none
def gtCons (g : D → Env → Option Env) (gs : List D → Env → Option Env) (ds : List D) (env : Env) : Option Env := match ds with
  | d :: r => (g d env).bind (gs r)
  | [] => none
theorem dgs_nil : DGs X G C [] [] gtNil := PGs_imp pgs_nil fun v σ H Q ⟨F, ds, env, env', r, dv, e, k⟩ => by
  cases ds with
  | nil =>
    simp only [DenL] at dv
    cases e
    exact ⟨dv, k σ H F (.refl F) (Lay.refl r.sub) r rfl fun _ _ => rfl⟩
  | cons d ds => cases e
theorem dgs_cons {g : D → Env → Option Env} {gs : List D → Env → Option Env} (h1 : DG X G C e vs g) (h2 : DGs X G C es ws gs) (hs : (assignEach (e :: es) X.env).map (·.2) = assign e X.env :: (assignEach es X.env).map (·.2) := by rfl) : DGs X G C (e :: es) (vs ++ ws) (gtCons g gs) :=
  PGs_imp (pgs_cons h1 h2 hs) fun v σ H Q ⟨F, ds, env, env', r, dv, e, k⟩ => by
    cases ds with
    | nil => cases e
    | cons d ds =>
      simp only [DenL] at dv
      obtain ⟨w, q, rfl, d1, d2⟩ := dv
      simp only [gtCons] at e
      cases e1 : g d env with
      | none => rw [e1] at e; cases e
      | some env1 =>
        rw [e1] at e
        refine ⟨w, q, rfl, F, d, env, env1, r, d1, e1, fun σ1 H1 F1 g1 l1 r1 n1 s1 => ⟨F1, ds, env1, env', r1, d2.gr g1, e, fun σ2 H2 F2 g2 l2 r2 n2 s2 => ?_⟩⟩
        refine k σ2 H2 F2 (g1.trans g2) ⟨l1.st.trans l2.st (fun _ z => nomatch z), l2.sub⟩ r2 (n2.trans n1) fun j hj => ?_
        exact (s2 j fun z => hj (by simp [z])).trans (s1 j fun z => hj (by simp [z]))
def gtTup (n : Nat) (gs : List D → Env → Option Env) (d : D) (env : Env) : Option Env := match d with
  | .tup ds => if ds.length = n then gs ds env else none
  | _ => none
theorem dg_tup {k n : Nat} {gs : List D → Env → Option Env} (hK : X.K = G.K) (hc : X.calm = true) (h : DGs X G C es vs gs) (hn : (assignEach es X.env).length = n := by rfl) (hst : (assignEach es X.env).findIdx? (·.1) = none := by rfl) : DG X G C (.Tuple es k pos) vs (gtTup n gs) :=
  PG_imp (pg_tup hc h hn hst) fun v σ H Q ⟨F, d, env, env', r, dv, e, q⟩ => by
    cases d with
    | tup ds =>
      simp only [gtTup] at e
      split at e
      · rename_i hl
        simp only [Den] at dv
        obtain ⟨a, ws, rfl, f, dl⟩ := dv
        exact ⟨a, ws, rfl, SqT.of (r.sub a _ f), by rw [dl.len]; exact hl, F, ds, env, env', r, dl, e, q⟩
      · cases e
    | _ => cases e

/-! ### what is walked -/
def Iter (G : Tx) (J : It) (F0 : Hp) (ds : List D) : Prop := ∃ Gp Y, Walk J ds.length Gp Y ∧ (∀ F H, Gr F0 F → Sub F H → Gp H) ∧ ∀ i d F H x H', Gr F0 F → Sub F H → ds[i]? = some d → Y i H x H' → ∃ F', Lay F H F' H' ∧ Den G F' d x
def dI (G : Tx) (W : WX) (C : DCtx) (g : Env → Out (List D)) : TI := fun σ H R => ∃ F env, Rep G C F H σ env ∧ pst (fun ds F' H' e J => Rep G C F' H' σ e ∧ Iter G J F' ds) (exW G W C σ) (fun J H' => R J H') F (g env)
abbrev DI (X : Cx) (G : Tx) (W : WX) (C : DCtx) (tg e : Expr) (g : Env → Out (List D)) : Prop := PI X tg e (dI G W C g)
theorem PI_imp {tg : Expr} {t t' : TI} (h : PI X tg e t) (k : ∀ σ H Q, t' σ H Q → t σ H Q) : PI X tg e t' := ⟨fun pins s σ H R I w => h.run pins s σ H R I (k σ H R w)⟩
def iAny (K : PySem.W.Frag) (tl : TE) : TI := fun σ H R => tl σ H fun x H1 =>
  (∃ a xs, x = .ref a ∧ SqL K H1 a xs ∧ R (Itl K a) H1) ∨ (∃ a xs, x = .ref a ∧ SqT K H1 a xs ∧ R (Itt K a) H1) ∨ (∃ z, x = .str z ∧ R (Its z) H1) ∨
  (∃ d kvs, x = .ref d ∧ H1 d = some (.dK kvs) ∧ ∀ o, R (Itk d o kvs) (upd H1 d (.frz o (.dK kvs)))) ∨ (∃ d o kvs, x = .ref d ∧ H1 d = some (.frz o (.dK kvs)) ∧ R (Itk d o kvs) H1) ∨
  (∃ d kvs, x = .ref d ∧ H1 d = some (.dT kvs) ∧ ∀ o, R (Itkt d o kvs) (upd H1 d (.frz o (.dT kvs)))) ∨ ∃ d o kvs, x = .ref d ∧ H1 d = some (.frz o (.dT kvs)) ∧ R (Itkt d o kvs) H1
theorem keysK_run {tg : Expr} {pins : List (Addr × Obj)} {s1 : Shared} {σ : L2.St} {H1 : Hp} {R : It → Hp → Prop} {d : Addr} {o : Obj} {kvs : List (Key × V)} (I1 : L2.Inv X pins σ H1 s1) (hd : H1 d = some (.frz o (.dK kvs))) (q : R (Itk d o kvs) H1) :
    wpAny (model X.prog X.w) X.A (pyIter (.ref d)) (PIE X pins σ tg R) X.xe s1 := by
  obtain ⟨hs, hgd, hx, es, ep, vs, hdt, hsz, kv, hm⟩ := I1.frzK hd
  refine iter_keys hs hgd hx hdt (pi_one (tk := s1.toks) I1 _ (turn_keys _ hdt) ⟨_, Heap.get?_push_size _ rfl, rfl, ?_⟩ q)
  rw [hsz] <;> rfl
theorem keysT_run {tg : Expr} {pins : List (Addr × Obj)} {s1 : Shared} {σ : L2.St} {H1 : Hp} {R : It → Hp → Prop} {d : Addr} {o : Obj} {kvs : List (List Key × V)} (I1 : L2.Inv X pins σ H1 s1) (hd : H1 d = some (.frz o (.dT kvs))) (q : R (Itkt d o kvs) H1) :
    wpAny (model X.prog X.w) X.A (pyIter (.ref d)) (PIE X pins σ tg R) X.xe s1 := by
  obtain ⟨hs, hgd, hx, es, ep, hdt, hsz, ent⟩ := I1.frzT hd
  refine iter_keys hs hgd hx hdt (pi_one (tk := s1.toks) I1 _ (turn_keysT _ hdt) ⟨_, Heap.get?_push_size _ rfl, rfl, ?_⟩ q)
  rw [hsz] <;> rfl
theorem pi_any {tg l : Expr} {tl : TE} (hl : PE X l tl) : PI X tg l (iAny X.K tl) := by
  refine ⟨fun pins s σ H R I h => ?_⟩
  refine thn (hl.run pins s σ H _ I h) fun v s1 ⟨x, H1, I1, r1, q1⟩ => ?_
  rcases q1 with ⟨a, xs, rfl, hq, q⟩ | ⟨a, xs, rfl, hq, q⟩ | ⟨z, rfl, q⟩ | ⟨d, kvs, rfl, hq, q⟩ | ⟨d, o, kvs, rfl, hq, q⟩ | ⟨d, kvs, rfl, hq, q⟩ | ⟨d, o, kvs, rfl, hq, q⟩
  · obtain rfl : v = Value.ref a := r1
    obtain ⟨its, rv, p, hz⟩ := I1.list hq
    refine wpAny_pyIter_list p.isList ?_
    refine ⟨s1.heap.objs.size, [s1.heap.objs.size], _, _, H1, rfl, I1.kept (t' := s1.toks) fun b o e => Heap.get?_push_of_some _ e, turn_list a _, ⟨_, Heap.get?_push_size _ rfl, rfl, rfl⟩, fun b hb => ?_, q⟩
    have e : b = s1.heap.objs.size := by simpa using hb
    subst e
    exact I1.fpOk (Nat.le_refl _) (I1.hok.fresh (Nat.le_refl _))
  · obtain rfl : v = Value.ref a := r1
    obtain ⟨its, rv, p, hz⟩ := I1.tuple hq
    refine wpAny_pyIter_tuple (show s1.heap.IsTuple a its.toArray from p) ?_
    refine ⟨s1.heap.objs.size, [s1.heap.objs.size], _, _, H1, rfl, I1.kept (t' := s1.toks) fun b o e => Heap.get?_push_of_some _ e, turn_tuple a _, ⟨_, Heap.get?_push_size _ rfl, rfl, rfl⟩, fun b hb => ?_, q⟩
    have e : b = s1.heap.objs.size := by simpa using hb
    subst e
    exact I1.fpOk (Nat.le_refl _) (I1.hok.fresh (Nat.le_refl _))
  · obtain ⟨t, rfl⟩ := r1
    cases ha : z.cps.all (· < 128)
    · exact wpAny_pyIter_wide ha (pi_one (tk := s1.toks) I1 _ (turn_str _ z t "str_iterator" (.inr rfl)) ⟨_, Heap.get?_push_size _ rfl, rfl, rfl⟩ q)
    · exact wpAny_pyIter_ascii ha (pi_one (tk := s1.toks) I1 _ (turn_str _ z t "str_ascii_iterator" (.inl rfl)) ⟨_, Heap.get?_push_size _ rfl, rfl, rfl⟩ q)
  · obtain rfl : v = Value.ref d := r1
    obtain ⟨o, I2⟩ := I1.lock hq True.intro
    exact keysK_run I2 upd_same (q o)
  · obtain rfl : v = Value.ref d := r1
    exact keysK_run I1 hq q
  · obtain rfl : v = Value.ref d := r1
    obtain ⟨o, I2⟩ := I1.lock hq True.intro
    exact keysT_run I2 upd_same (q o)
  · obtain rfl : v = Value.ref d := r1
    exact keysT_run I1 hq q
def iterD : D → Option (List D)
  | .lst ds => some ds
  | .tup ds => some ds
  | .kt ds => some ds
  | .str z => some (z.cps.toList.map fun c => .str ⟨#[c]⟩)
  | .dic kvs => some (kvs.map (·.1))
  | .dit kvs => some (kvs.map (·.1))
  | .scr ns => some (ns.map D.int)
  | _ => none
theorem iter_at {F : Hp} {vs : List V} {ds : List D} (h : DenL G F ds vs) {J : It} {Gp : Hp → Prop} (w : Walk J vs.length Gp (YAt vs)) (hg : ∀ F' H, Gr F F' → Sub F' H → Gp H) : Iter G J F ds := by
  refine ⟨Gp, YAt vs, by rw [← h.len]; exact w, hg, fun i d F1 H x H' g s e ⟨e1, e2⟩ => ?_⟩
  subst e1
  obtain ⟨y, h1, h2⟩ := h.at_ e
  rw [e2] at h1; cases h1
  exact ⟨F1, Lay.refl s, h2.gr g⟩
theorem sqL_up {K : PySem.W.Frag} {F H : Hp} {a : Addr} {xs : List V} (s : Sub F H) (h : SqL K F a xs) : SqL K H a xs := by
  rcases h with (h | ⟨o, h⟩) | h
  · exact .inl (.inl (s a _ h))
  · exact .inl (.inr ⟨o, s a _ h⟩)
  · exact .inr h
theorem sqT_up {K : PySem.W.Frag} {F H : Hp} {a : Addr} {xs : List V} (s : Sub F H) (h : SqT K F a xs) : SqT K H a xs := by
  rcases h with (h | ⟨o, h⟩) | h
  · exact .inl (.inl (s a _ h))
  · exact .inl (.inr ⟨o, s a _ h⟩)
  · exact .inr h
theorem denL_ints {F : Hp} : ∀ ns : List Int, DenL G F (ns.map D.int) (ns.map V.int)
  | [] => by simp [DenL]
  | n :: ns => by simp only [List.map_cons, DenL]; exact ⟨_, _, rfl, by simp [Den], denL_ints ns⟩
/-- a frozen dict is locked for good -/
theorem lay_lock {F H : Hp} {d : Addr} {u : HO} {o : Obj} (s : Sub F H) (h : F d = some u) (l : LockK u) : Lay F H (upd F d (.frz o u)) (upd H d (.frz o u)) := by
  have g : Gr F (upd F d (.frz o u)) := fun a v e => by
    by_cases q : a = d
    · subst q
      rw [h] at e; cases e
      exact ⟨_, upd_same, .inr ⟨l, o, rfl⟩⟩
    · exact ⟨v, by rw [upd_ne q]; exact e, .refl v⟩
  refine ⟨⟨g, fun b v e => ?_, fun b v e _ => ?_, fun P q t => t.to g fun ps e1 e2 => ?_⟩, fun b v e => ?_⟩
  · by_cases q : b = d
    · subst q; exact .inl ⟨u, h⟩
    · rw [upd_ne q] at e; exact .inl ⟨v, e⟩
  · by_cases q : b = d
    · subst q
      have := s b u h
      rw [this] at e; cases e
      exact .inr (.inl ⟨⟨u, h⟩, _, upd_same, .inr ⟨l, o, rfl⟩⟩)
    · exact .inl (by rw [upd_ne q]; exact e)
  · have n : P.1 ≠ d := fun z => by rw [z, h] at e1; cases e1
    rw [upd_ne n, upd_ne n]
    exact ⟨e1, e2⟩
  · by_cases q : b = d
    · subst q
      rw [upd_same] at e ⊢; exact e
    · rw [upd_ne q] at e ⊢; exact s b v e
theorem DenK.at_ {F : Hp} : ∀ {ds : List (D × D)} {ks : List (Key × V)} {j : Nat} {k d : D}, DenK G F ds ks → ds[j]? = some (k, d) → ∃ kk v, ks[j]? = some (kk, v) ∧ k = kD kk ∧ Den G F d v
  | [], ks, j, k, d, h, e => by simp at e
  | (k0, d0) :: ds, ks, j, k, d, h, e => by
    simp only [DenK] at h
    obtain ⟨kk, v, t, rfl, ek, h1, h2⟩ := h
    cases j with
    | zero => simp only [List.getElem?_cons_zero, Option.some.injEq, Prod.mk.injEq] at e; obtain ⟨rfl, rfl⟩ := e; exact ⟨kk, v, rfl, ek, h1⟩
    | succ j => simp only [List.getElem?_cons_succ] at e ⊢; exact h2.at_ e
theorem DenT.at_ {F : Hp} : ∀ {ds : List (D × D)} {ks : List (List Key × V)} {j : Nat} {k d : D}, DenT G F ds ks → ds[j]? = some (k, d) → ∃ kk v, ks[j]? = some (kk, v) ∧ k = .tup (kk.map kD) ∧ Den G F d v
  | [], ks, j, k, d, h, e => by simp at e
  | (k0, d0) :: ds, ks, j, k, d, h, e => by
    simp only [DenT] at h
    obtain ⟨kk, v, t, rfl, ek, h1, h2⟩ := h
    cases j with
    | zero => simp only [List.getElem?_cons_zero, Option.some.injEq, Prod.mk.injEq] at e; obtain ⟨rfl, rfl⟩ := e; exact ⟨kk, v, rfl, ek, h1⟩
    | succ j => simp only [List.getElem?_cons_succ] at e ⊢; exact h2.at_ e
theorem DenK.len {F : Hp} : ∀ {ds : List (D × D)} {ks : List (Key × V)}, DenK G F ds ks → ks.length = ds.length
  | [], ks, h => by simp only [DenK] at h; rw [h]; rfl
  | (k0, d0) :: ds, ks, h => by
    simp only [DenK] at h
    obtain ⟨kk, v, t, rfl, ek, h1, h2⟩ := h
    simp [h2.len]
theorem DenT.len {F : Hp} : ∀ {ds : List (D × D)} {ks : List (List Key × V)}, DenT G F ds ks → ks.length = ds.length
  | [], ks, h => by simp only [DenT] at h; rw [h]; rfl
  | (k0, d0) :: ds, ks, h => by
    simp only [DenT] at h
    obtain ⟨kk, v, t, rfl, ek, h1, h2⟩ := h
    simp [h2.len]
theorem den_kV {F : Hp} (k : Key) : Den G F (kD k) (kV k) := by cases k <;> simp [kD, kV, Den]
theorem denL_kV {F : Hp} : ∀ ks : List Key, DenL G F (ks.map kD) (ks.map kV)
  | [] => by simp [DenL]
  | k :: ks => by simp only [List.map_cons, DenL]; exact ⟨_, _, rfl, den_kV k, denL_kV ks⟩
theorem iterK {F : Hp} {d : Addr} {o : Obj} {ks : List (Key × V)} {kvs : List (D × D)} (h : F d = some (.frz o (.dK ks))) (dk : DenK G F kvs ks) : Iter G (Itk d o ks) F (kvs.map (·.1)) := by
  refine ⟨_, _, by rw [List.length_map, ← dk.len]; exact walk_keys, fun F1 H g s => s d _ (g.frz h), fun i e F1 H x H' g s ei y => ?_⟩
  obtain ⟨e1, k, v, e2, e3⟩ := y
  subst e1
  rw [List.getElem?_map] at ei
  cases q : kvs[i]? with
  | none => rw [q] at ei; cases ei
  | some kv =>
    rw [q] at ei
    cases ei
    obtain ⟨kk, v', h1, h2, _⟩ := dk.at_ (k := kv.1) (d := kv.2) q
    rw [e2] at h1; cases h1
    refine ⟨F1, Lay.refl s, ?_⟩
    show Den G F1 kv.1 x
    rw [e3, h2]
    exact den_kV k
theorem iterT {F : Hp} {d : Addr} {o : Obj} {ks : List (List Key × V)} {kvs : List (D × D)} (h : F d = some (.frz o (.dT ks))) (dk : DenT G F kvs ks) : Iter G (Itkt d o ks) F (kvs.map (·.1)) := by
  refine ⟨_, _, by rw [List.length_map, ← dk.len]; exact walk_keysT, fun F1 H g s => s d _ (g.frz h), fun i e F1 H x H' g s ei y => ?_⟩
  obtain ⟨e1, k, v, q, e2, e3, e4⟩ := y
  subst e1
  rw [List.getElem?_map] at ei
  cases qq : kvs[i]? with
  | none => rw [qq] at ei; cases ei
  | some kv =>
    rw [qq] at ei
    cases ei
    obtain ⟨kk, v', h1, h2, _⟩ := dk.at_ (k := kv.1) (d := kv.2) qq
    rw [e2] at h1; cases h1
    show ∃ F', Lay F1 H' F' H' ∧ Den G F' kv.1 x
    rw [e3, h2]
    -- the key's own tuple: frozen from here on
    cases fq : F1 q with
    | some u =>
      have := s q u fq
      rw [e4] at this; cases this
      exact ⟨F1, Lay.refl s, by simp only [Den]; exact ⟨q, _, rfl, fq, denL_kV k⟩⟩
    | none =>
      refine ⟨upd F1 q (.tup (k.map kV)), ⟨⟨Gr.of_sub fun a o e => by rw [upd_ne (ne_of_none e fq)]; exact e, fun b u e => ?_, fun b u e _ => .inl e, fun P q' t => t.to (Gr.of_sub fun a o e => by rw [upd_ne (ne_of_none e fq)]; exact e) fun ps e1 e2 => ⟨by rw [upd_ne (fun z => by rw [z, e4] at e2; cases e2)]; exact e1, e2⟩⟩, fun b u e => ?_⟩, ?_⟩
      · by_cases z : b = q
        · rw [z]; exact .inr (.inr (.inr ⟨_, e4⟩))
        · rw [upd_ne z] at e; exact .inl ⟨u, e⟩
      · by_cases z : b = q
        · subst z; rw [upd_same] at e; cases e; exact e4
        · rw [upd_ne z] at e; exact s b u e
      · simp only [Den]; exact ⟨q, _, rfl, upd_same, denL_kV k⟩

theorem di_any {tg : Expr} {ge : Env → Out D} (hK : X.K = G.K) (he : DE X G W C e ge) : DI X G W C tg e (fun env => (ge env).bind fun d e => lft (iterD d) e) := by
  refine PI_imp (pi_any he) fun σ H R ⟨F, env, rp, h⟩ => ⟨F, env, rp, pst_bind h fun d e1 x H1 F1 g1 r1 h1 => ?_⟩
  obtain ⟨r1, dx⟩ := r1
  cases d with
  | lst ds =>
    simp only [Den] at dx
    obtain ⟨a, vs, rfl, f, dl⟩ := dx
    exact .inl ⟨a, vs, rfl, SqL.of (r1.sub a _ f), h1 _ H1 F1 (.refl F1) ⟨r1, iter_at dl walk_list fun F' H g s => SqL.of (s a _ (g.lst f))⟩⟩
  | tup ds =>
    simp only [Den] at dx
    obtain ⟨a, vs, rfl, f, dl⟩ := dx
    exact .inr (.inl ⟨a, vs, rfl, SqT.of (r1.sub a _ f), h1 _ H1 F1 (.refl F1) ⟨r1, iter_at dl walk_tup fun F' H g s => SqT.of (s a _ (g.tup f))⟩⟩)
  | kt ds =>
    simp only [Den] at dx
    obtain ⟨a, vs, rfl, f, dl⟩ := dx
    exact .inr (.inl ⟨a, vs, rfl, by rw [hK]; exact sqT_up r1.sub f, h1 _ H1 F1 (.refl F1) ⟨r1, iter_at dl walk_tup fun F' H g s => by rw [hK]; exact sqT_up s (g.sqT f)⟩⟩)
  | scr ns =>
    simp only [Den] at dx
    obtain ⟨a, rfl, f⟩ := dx
    exact .inl ⟨a, _, rfl, by rw [hK]; exact sqL_up r1.sub f, h1 _ H1 F1 (.refl F1) ⟨r1, iter_at (denL_ints ns) walk_list fun F' H g s => by rw [hK]; exact sqL_up s (g.sqL f)⟩⟩
  | str z =>
    simp only [Den] at dx
    refine .inr (.inr (.inl ⟨z, dx, h1 _ H1 F1 (.refl F1) ⟨r1, _, _, by rw [List.length_map, Array.length_toList]; exact walk_str, fun _ _ _ _ => trivial, fun i d F H x H' g s e y => ?_⟩⟩))
    obtain ⟨e1, c, e2, e3⟩ := y
    subst e1
    refine ⟨F, Lay.refl s, ?_⟩
    rw [List.getElem?_map, Array.getElem?_toList, e2] at e
    cases e
    simp only [Den]
    exact e3
  | dic kvs =>
    simp only [Den] at dx
    obtain ⟨a, ks, rfl, rd, dk⟩ := dx
    · rcases rd with rd | ⟨o, rd⟩
      · refine .inr (.inr (.inr (.inl ⟨a, ks, rfl, r1.sub a _ rd, fun o => ?_⟩)))
        have l := lay_lock (o := o) r1.sub rd (.inl ⟨ks, rfl⟩)
        exact h1 _ _ _ l.gr ⟨r1.lay l, iterK upd_same (dk.gr l.gr)⟩
      · exact .inr (.inr (.inr (.inr (.inl ⟨a, o, ks, rfl, r1.sub a _ rd, h1 _ _ _ (.refl F1) ⟨r1, iterK rd dk⟩⟩))))
  | dit kvs =>
    simp only [Den] at dx
    obtain ⟨a, ks, rfl, rd, dk⟩ := dx
    · rcases rd with rd | ⟨o, rd⟩
      · refine .inr (.inr (.inr (.inr (.inr (.inl ⟨a, ks, rfl, r1.sub a _ rd, fun o => ?_⟩)))))
        have l := lay_lock (o := o) r1.sub rd (.inr ⟨ks, rfl⟩)
        exact h1 _ _ _ l.gr ⟨r1.lay l, iterT upd_same (dk.gr l.gr)⟩
      · exact .inr (.inr (.inr (.inr (.inr (.inr ⟨a, o, ks, rfl, r1.sub a _ rd, h1 _ _ _ (.refl F1) ⟨r1, iterT rd dk⟩⟩)))))
  | _ => exact h1.elim
/-! ### range -/
def rngD (lo : Int) (n : Nat) : List D := (List.range n).map fun i : Nat => D.int (lo + (i : Int))
def rng1 : List D → Option (List D)
  | [.int j] => if -(2 ^ 62) ≤ j ∧ j < 2 ^ 62 then some (rngD 0 j.toNat) else none
  | _ => none
def rng2 : List D → Option (List D)
  | [.int i, .int j] => if -(2 ^ 62) ≤ i ∧ i < 2 ^ 62 ∧ -(2 ^ 62) ≤ j ∧ j < 2 ^ 62 then some (rngD i (j - i).toNat) else none
  | _ => none
theorem iter_rng {F : Hp} {lo : Int} {n : Nat} : Iter G (Itr lo n) F (rngD lo n) := by
  refine ⟨_, _, by unfold rngD; rw [List.length_map, List.length_range]; exact walk_range, fun _ _ _ _ => trivial, fun i d F H x H' g s e y => ?_⟩
  obtain ⟨e1, e2⟩ := y
  subst e1
  unfold rngD at e
  rw [List.getElem?_map] at e
  cases q : (List.range n)[i]? with
  | none => rw [q] at e; cases e
  | some j =>
    have hi : i < n := by have := (List.getElem?_eq_some_iff.mp q).1; simpa using this
    rw [List.getElem?_range hi] at q; cases q
    rw [List.getElem?_range hi] at e
    cases e
    exact ⟨F, Lay.refl s, by simp only [Den]; exact e2⟩
theorem denL1 {F : Hp} {d : D} {vs : List V} (h : DenL G F [d] vs) : ∃ v, vs = [v] ∧ Den G F d v := by
  simp only [DenL] at h
  obtain ⟨v, r, rfl, h1, rfl⟩ := h
  exact ⟨v, rfl, h1⟩
theorem denL2 {F : Hp} {d d' : D} {vs : List V} (h : DenL G F [d, d'] vs) : ∃ v w, vs = [v, w] ∧ Den G F d v ∧ Den G F d' w := by
  simp only [DenL] at h
  obtain ⟨v, r, rfl, h1, w, r', rfl, h2, rfl⟩ := h
  exact ⟨v, w, rfl, h1, h2⟩
theorem di_range1 {tg : Expr} {p : Pos} {gs : Env → Out (List D)} (hg : Gl X "range") (hm : X.mg "range" = none) (ha : DA X G W C [a] gs) (hst : starEach [a] X.env = [(false, eval a X.env)] := by rfl) : DI X G W C tg (.Call (.Name "range" p) [a] [] pos) (fun env => (gs env).bind fun ds e => lft (rng1 ds) e) := by
  refine PI_imp (pi_range1 hg hm ha hst) fun σ H R ⟨F, env, rp, h⟩ => ⟨F, env, rp, pst_bind h fun ds e1 x H1 F1 g1 r1 h1 => ?_⟩
  cases e : rng1 ds with
  | none => rw [e] at h1; exact h1.elim
  | some l =>
    rw [e] at h1
    unfold rng1 at e
    split at e
    · rename_i j
      split at e
      · rename_i hj
        cases e
        obtain ⟨v, rfl, dv⟩ := denL1 r1.2
        simp only [Den] at dv
        exact ⟨j, by rw [dv], hj.1, hj.2, h1 _ H1 F1 (.refl F1) ⟨r1.1, iter_rng⟩⟩
      · cases e
    · cases e
theorem di_range2 {tg : Expr} {p : Pos} {gs : Env → Out (List D)} (hg : Gl X "range") (hm : X.mg "range" = none) (ha : DA X G W C [a, b] gs) (hs : starEach [a, b] X.env = [(false, eval a X.env), (false, eval b X.env)] := by rfl) (hs2 : starEach [b] X.env = [(false, eval b X.env)] := by rfl) : DI X G W C tg (.Call (.Name "range" p) [a, b] [] pos) (fun env => (gs env).bind fun ds e => lft (rng2 ds) e) := by
  refine PI_imp (pi_range2 hg hm ha (hs := hs) (hs2 := hs2)) fun σ H R ⟨F, env, rp, h⟩ => ⟨F, env, rp, pst_bind h fun ds e1 x H1 F1 g1 r1 h1 => ?_⟩
  cases e : rng2 ds with
  | none => rw [e] at h1; exact h1.elim
  | some l =>
    rw [e] at h1
    unfold rng2 at e
    split at e
    · rename_i i j
      split at e
      · rename_i hj
        cases e
        obtain ⟨v, w, rfl, dv, dw⟩ := denL2 r1.2
        simp only [Den] at dv dw
        exact ⟨i, j, by rw [dv, dw], hj, h1 _ H1 F1 (.refl F1) ⟨r1.1, iter_rng⟩⟩
      · cases e
    · cases e
/-! ### enumerate -/
def enumD (ds : List D) : List D := ds.zipIdx.map fun p => D.tup [.int (p.2 : Nat), p.1]
def enm : List D → Option (List D)
  | [.lst ds] => some (enumD ds)
  | _ => none
theorem enumD_at {ds : List D} {i : Nat} {d : D} (e : (enumD ds)[i]? = some d) : ∃ x, ds[i]? = some x ∧ d = .tup [.int (i : Nat), x] := by
  unfold enumD at e
  rw [List.getElem?_map, List.getElem?_zipIdx] at e
  cases q : ds[i]? with
  | none => rw [q] at e; cases e
  | some x => rw [q] at e; cases e; exact ⟨x, rfl, by simp⟩
theorem lay_new {F H : Hp} {p : Addr} {o : HO} (s : Sub F H) (hp : H p = none) : Lay F H (upd F p o) (upd H p o) := Lay.new s hp
theorem iter_enum {F : Hp} {ds : List D} {vs : List V} {a : Addr} {Gp : Hp → Prop} (hG : ∀ F1 H, Gr F F1 → Sub F1 H → SqL G.K H a vs) (dl : DenL G F ds vs) : Iter G (Ite G.K a) F (enumD ds) := by
  refine ⟨_, _, by unfold enumD; rw [List.length_map, List.length_zipIdx, ← dl.len]; exact walk_enum, hG, fun i d F1 H x H' g s e y => ?_⟩
  obtain ⟨Tt, x1, y1, e1, e2, e3, e4, e5⟩ := y
  obtain ⟨d1, h1, rfl⟩ := enumD_at e
  obtain ⟨w, h2, h3⟩ := dl.at_ h1
  have e5 : vs[i]? = some y1 := e5
  rw [e5] at h2; cases h2
  cases e4
  subst e3
  have l := lay_new (o := .tup [.int (i : Nat), y1]) s e2
  refine ⟨_, l, ?_⟩
  rw [e1]
  simp only [Den, DenL]
  exact ⟨Tt, _, rfl, upd_same, _, _, rfl, rfl, _, _, rfl, h3.gr (g.trans l.gr), rfl⟩
theorem di_enum {p tpos : Pos} {elts : List Expr} {kk : Nat} {gs : Env → Out (List D)} (hK : X.K = G.K) (hg : Gl X "enumerate") (hm : X.mg "enumerate" = none) (ha : DA X G W C [e] gs) (hs : starEach [e] X.env = [(false, eval e X.env)] := by rfl) :
    DI X G W C (.Tuple elts kk tpos) (.Call (.Name "enumerate" p) [e] [] pos) (fun env => (gs env).bind fun ds e => lft (enm ds) e) := by
  refine PI_imp (pi_enum hg hm ha hs) fun σ H R ⟨F, env, rp, h⟩ => ⟨F, env, rp, pst_bind h fun ds e1 x H1 F1 g1 r1 h1 => ?_⟩
  cases e : enm ds with
  | none => rw [e] at h1; exact h1.elim
  | some l =>
    rw [e] at h1
    unfold enm at e
    split at e
    · cases e
      obtain ⟨v, rfl, dv⟩ := denL1 r1.2
      simp only [Den] at dv
      obtain ⟨a, vs, rfl, f, dl⟩ := dv
      refine ⟨a, vs, rfl, SqL.of (r1.1.sub a _ f), h1 _ H1 F1 (.refl F1) ⟨r1.1, ?_⟩⟩
      rw [hK]
      exact iter_enum (Gp := fun _ => True) (fun F2 H g s => SqL.of (s a _ (g.lst f))) dl
    · cases e

/-! ### loops -/
def loopK (o : Out Fl) (k : Env → Out Fl) : Out Fl :=
  match o with
  | .ok .nx e => k e
  | .ok .ct e => k e
  | .ok .bk e => .ok .nx e
  | o => o
def forD (gt : D → Env → Option Env) (gb : Env → Out Fl) : List D → Env → Out Fl
  | [], env => .ok .nx env
  | d :: r, env => match gt d env with
    | some e => loopK (gb e) (forD gt gb r)
    | none => .fail
theorem pS_loop {N : Ends} {F : Hp} {o : Out Fl} {k : Env → Out Fl} {Nx : L2.St → Hp → Prop} (h : pS G W C N F (loopK o k)) (hk : ∀ e σ' H' F', Gr F F' → Rep G C F' H' σ' e → pS G W C N F' (k e) → Nx σ' H') :
    pS G W C { N with nx := Nx, ct := Nx, bk := N.nx } F o := by
  cases o with
  | fail => exact h
  | exc x e => exact h
  | ok f e =>
    cases f with
    | nx => exact fun σ' H' F' g r => hk e σ' H' F' g r (pS.gr (show pS G W C N F (k e) from h) g)
    | ct => exact fun σ' H' F' g r => hk e σ' H' F' g r (pS.gr (show pS G W C N F (k e) from h) g)
    | bk => exact h
    | rt t => exact h
theorem ds_for {tg iter : Expr} {body : List Stmt} {gi : Env → Out (List D)} {gt : D → Env → Option Env} {gb : Env → Out Fl} (hp : PassesOwn (model X.prog X.w) X.A X.env X.xe) (hc : X.calm = true) (hi : DI X G W C tg iter gi) (hg : DG X G C tg vs gt) (hb : DSs X G W C body gb)
    (hs : ∀ x, foldedSetIterable iter X.env x = pure x := by intro _; rfl) :
    DS X G W C (.For tg iter body [] pos) (fun env => (gi env).bind (forD gt gb)) := by
  refine PS_imp (ps_for hp hc hi hg hb hs) fun N σ H ⟨F, env, rp, h⟩ => ⟨F, env, rp, pS_bind h fun ds e1 J H1 F1 g1 r1 h1 => ?_⟩
  obtain ⟨r1, Gp, Y, w, hG, hY⟩ := r1
  refine for_it w (fun i σ H => ∃ F env, Gr F1 F ∧ Rep G C F H σ env ∧ pS G W C N F (forD gt gb (ds.drop i) env)) ⟨F1, e1, .refl F1, r1, by simpa using h1⟩ (fun i σ H _ ⟨F, env, g, r, _⟩ => hG F H g r.sub) ?_ ?_
  · rintro i x σ H H' hi ⟨F, env, g, r, q⟩ y
    have ed : ds.drop i = ds[i] :: ds.drop (i + 1) := List.drop_eq_getElem_cons hi
    obtain ⟨F2, l, dx⟩ := hY i ds[i] F H x H' g r.sub (by simp [hi]) y
    rw [ed] at q
    simp only [forD] at q
    cases eg : gt ds[i] env with
    | none => rw [eg] at q; exact q.elim
    | some e2 =>
      rw [eg] at q
      refine ⟨F2, ds[i], env, e2, r.lay l, dx, eg, fun σ3 H3 F3 g3 l3 r3 _ _ => ⟨F3, e2, r3, ?_⟩⟩
      refine pS_loop (pS.gr q (l.gr.trans g3)) fun e4 σ4 H4 F4 g4 r4 q4 => ⟨F4, e4, ((g.trans l.gr).trans g3).trans g4, r4, q4⟩
  · rintro σ H ⟨F, env, g, r, q⟩
    rw [List.drop_length] at q
    exact q σ H F (.refl F) r
def whileD (gc : Env → Out Bool) (gb : Env → Out Fl) : Nat → Env → Out Fl
  | 0, _ => .fail
  | n + 1, env => (gc env).bind fun b e => if b = true then loopK (gb e) (whileD gc gb n) else .ok .nx e
theorem ds_while (n : Nat) {c : Expr} {body : List Stmt} {gc : Env → Out Bool} {gb : Env → Out Fl} (hp : PassesOwn (model X.prog X.w) X.A X.env X.xe) (hc : DT X G W C c gc) (hb : DSs X G W C body gb) : DS X G W C (.While c body [] pos) (whileD gc gb n) := by
  refine PS_imp (ps_while hp hc hb) fun N σ H ⟨F, env, rp, h⟩ => ⟨fun m σ H => ∃ F env, Rep G C F H σ env ∧ pS G W C N F (whileD gc gb m env), ⟨n, F, env, rp, h⟩, ?_⟩
  rintro m σ H ⟨F, env, r, q⟩
  cases m with
  | zero => exact q.elim
  | succ m =>
    refine ⟨F, env, r, pS_bind q fun b e1 b' H1 F1 g1 r1 q1 => ?_⟩
    obtain ⟨r1, rfl⟩ := r1
    cases b' with
    | false => exact q1 σ H1 F1 (.refl F1) r1
    | true =>
      refine ⟨fun σ' H' => ∃ F env, Rep G C F H' σ' env ∧ pS G W C N F (whileD gc gb m env), fun σ' H' z => ⟨m, Nat.lt_succ_self m, z⟩, F1, e1, r1, ?_⟩
      exact pS_loop q1 fun e4 σ4 H4 F4 g4 r4 q4 => ⟨F4, e4, r4, q4⟩
end
end DL

end
section
namespace DL
open PySem PySem.Spec PyProof.Rows L2
variable [TB]
def wipeE (env : Env) : List Nat → Env
  | [] => env
  | v :: vs => (wipeE env vs).set v none
/-- the frozen ones of a block's slots as they were ahead of it -/
def oldE (e0 : Env) (v : Nat) : Option Ent := match e0[v]? with
  | some (some (.own (.fz d))) => some (.own (.fz d))
  | some (some (.bor (.fz d))) => some (.own (.fz d))
  | _ => none
def restE (e0 : Env) : Env → List Nat → Env
  | env, [] => env
  | env, v :: vs => restE e0 (env.set v (oldE e0 v)) vs
def W0 : WX := fun _ _ _ _ => False
section
variable {G : Tx} {C : DCtx} {F H F' H' : Hp} {σ : L2.St} {env : Env} {t : T} {v : V} {i : Nat}
theorem RepV.wipe1 (r : RepV G C F H σ env t v) (hp : ∀ w, (i, w) ∉ C.pv) : RepV G C F H (σ.set i none) (env.set i none) t v := by
  obtain ⟨fp, A, r, o, nd, mi, dj⟩ := r
  refine ⟨fp, A, ⟨r.st, r.sub, by simp [r.len], fun j tj e => ?_, r.bok, fun j tj e => ?_, fun j tj e => r.nd j tj (set_none e).2, fun j k tj tk ne ej ek => r.dj j k tj tk ne (set_none ej).2 (set_none ek).2, fun j w h => ?_, r.tb⟩, o, nd, mi, fun j tj e => dj j tj (set_none e).2⟩
  · obtain ⟨nj, e⟩ := set_none e
    rw [List.getElem?_set_ne (Ne.symm nj)]
    exact r.own j tj e
  · obtain ⟨nj, e⟩ := set_none e
    rw [List.getElem?_set_ne (Ne.symm nj)]
    exact r.bor j tj e
  · have : j ≠ i := fun z => by subst z; exact hp w h
    rw [List.getElem?_set_ne (Ne.symm this)]
    exact r.pin j w h
theorem RepV.wipe : ∀ (vs : List Nat), RepV G C F H σ env t v → (∀ i ∈ vs, ∀ w, (i, w) ∉ C.pv) → RepV G C F H (L2.wipe σ vs) (wipeE env vs) t v
  | [], r, _ => r
  | i :: vs, r, hp => (RepV.wipe vs r fun j hj => hp j (by simp [hj])).wipe1 (hp i (by simp))
theorem Rep.wipe (vs : List Nat) (r : Rep G C F H σ env) (hp : ∀ i ∈ vs, ∀ w, (i, w) ∉ C.pv) : Rep G C F H (L2.wipe σ vs) (wipeE env vs) :=
  (RepV.wipe vs (r.fz (d := .non) (v := .non) (by simp [Den])) hp).rep
theorem RepV.unwipe1 {x : Option Ent} (r : RepV G C F H (σ.set i none) env t v) (hx : x = none ∨ ∃ d w, x = some (.own (.fz d)) ∧ σ[i]? = some (some w) ∧ Den G F d w) : RepV G C F H σ (env.set i x) t v := by
  obtain ⟨fp, A, r, o, nd, mi, dj⟩ := r
  have hlen : σ.length = env.length := by have := r.len; simpa using this
  have gone : ∀ y, (σ.set i none)[i]? = some (some y) → False := fun y e => by
    have hl : i < σ.length := by have := (List.getElem?_eq_some_iff.mp e).1; simpa using this
    rw [List.getElem?_set_self hl] at e
    cases e
  have pin : ∀ (j : Nat) (w : V), (j, w) ∈ C.pv → σ[j]? = some (some w) := fun j w h => by
    have := r.pin j w h
    by_cases q : j = i
    · subst q; exact (gone w this).elim
    · rw [List.getElem?_set_ne (Ne.symm q)] at this; exact this
  rcases hx with rfl | ⟨d, w, rfl, hw, dw⟩
  · refine ⟨fp, A, ⟨r.st, r.sub, by simp [hlen], fun j tj e => ?_, r.bok, fun j tj e => ?_, fun j tj e => r.nd j tj (set_none e).2, fun j k tj tk ne ej ek => r.dj j k tj tk ne (set_none ej).2 (set_none ek).2, pin, r.tb⟩, o, nd, mi, fun j tj e => dj j tj (set_none e).2⟩
    · obtain ⟨nj, e⟩ := set_none e
      have := r.own j tj e
      rw [List.getElem?_set_ne (Ne.symm nj)] at this
      exact this
    · obtain ⟨nj, e⟩ := set_none e
      have := r.bor j tj e
      rw [List.getElem?_set_ne (Ne.symm nj)] at this
      exact this
  · have r0 : RepV G C F H σ (env.set i none) t v := by
      refine ⟨fp, A, ⟨r.st, r.sub, by simp [hlen], fun j tj e => ?_, r.bok, fun j tj e => ?_, fun j tj e => r.nd j tj (set_none e).2, fun j k tj tk ne ej ek => r.dj j k tj tk ne (set_none ej).2 (set_none ek).2, pin, r.tb⟩, o, nd, mi, fun j tj e => dj j tj (set_none e).2⟩
      · obtain ⟨nj, e⟩ := set_none e
        have := r.own j tj e
        rw [List.getElem?_set_ne (Ne.symm nj)] at this
        exact this
      · obtain ⟨nj, e⟩ := set_none e
        have := r.bor j tj e
        rw [List.getElem?_set_ne (Ne.symm nj)] at this
        exact this
    -- a frozen entry comes in
    obtain ⟨fp, A, r, o, nd, mi, dj⟩ := r0
    refine ⟨fun j => if j = i then [] else fp j, A, ⟨r.st, r.sub, by simp [hlen], fun j tj e => ?_, r.bok, fun j tj e => ?_, fun j tj e => ?_, fun j k tj tk ne ej ek a ha => ?_, pin, r.tb⟩, o, nd, mi, fun j tj e a ha => ?_⟩
    · rcases set_some e with ⟨rfl, q, hl⟩ | ⟨q, e2⟩
      · cases q
        exact ⟨w, hw, by simp only [Own, if_pos]; exact ⟨trivial, dw⟩⟩
      · rw [if_neg q]
        exact r.own j tj (by rw [List.getElem?_set_ne (Ne.symm q)]; exact e2)
    · rcases set_some e with ⟨rfl, q, hl⟩ | ⟨q, e2⟩
      · cases q
      · exact r.bor j tj (by rw [List.getElem?_set_ne (Ne.symm q)]; exact e2)
    · rcases set_some e with ⟨rfl, q, hl⟩ | ⟨q, e2⟩
      · rw [if_pos rfl]; exact ⟨List.nodup_nil, fun _ z => nomatch z⟩
      · rw [if_neg q]
        exact r.nd j tj (by rw [List.getElem?_set_ne (Ne.symm q)]; exact e2)
    · have ha : a ∈ if j = i then [] else fp j := ha
      show a ∉ (if k = i then [] else fp k)
      by_cases qj : j = i
      · rw [if_pos qj] at ha; cases ha
      · rw [if_neg qj] at ha
        by_cases qk : k = i
        · rw [if_pos qk]; exact fun z => nomatch z
        · rw [if_neg qk]
          rcases set_some ej with ⟨z, _⟩ | ⟨_, ej2⟩
          · exact absurd z qj
          · rcases set_some ek with ⟨z, _⟩ | ⟨_, ek2⟩
            · exact absurd z qk
            · exact r.dj j k tj tk ne (by rw [List.getElem?_set_ne (Ne.symm qj)]; exact ej2) (by rw [List.getElem?_set_ne (Ne.symm qk)]; exact ek2) a ha
    · have ha : a ∈ if j = i then [] else fp j := ha
      by_cases qj : j = i
      · rw [if_pos qj] at ha; cases ha
      · rw [if_neg qj] at ha
        rcases set_some e with ⟨z, _⟩ | ⟨_, e2⟩
        · exact absurd z qj
        · exact dj j tj (by rw [List.getElem?_set_ne (Ne.symm qj)]; exact e2) a ha
theorem wipe_at : ∀ {vs : List Nat} {j : Nat} {σ : L2.St}, j ∉ vs → (L2.wipe σ vs)[j]? = σ[j]?
  | [], j, σ, h => rfl
  | v :: vs, j, σ, h => by
    show ((L2.wipe σ vs).set v none)[j]? = _
    rw [List.getElem?_set_ne (fun z => h (by simp [z]))]
    exact wipe_at fun z => h (by simp [z])
theorem RepV.rest {e0 : Env} {F1 H1 : Hp} (r0 : Rep G C F1 H1 σ e0) (g : Gr F1 F) : ∀ (vs : List Nat) {env : Env}, vs.Nodup → RepV G C F H (L2.wipe σ vs) env t v → RepV G C F H σ (restE e0 env vs) t v
  | [], env, _, r => r
  | i :: vs, env, nd, r => by
    obtain ⟨n1, n2⟩ := List.nodup_cons.mp nd
    refine RepV.rest r0 g vs n2 (RepV.unwipe1 (σ := L2.wipe σ vs) (i := i) r ?_)
    unfold oldE
    split
    · rename_i d e
      obtain ⟨w, B, h1, h2⟩ := r0.at_ (.inl e)
      simp only [Own] at h2
      exact .inr ⟨d, w, rfl, by rw [wipe_at n1]; exact h1, h2.2.gr g⟩
    · rename_i d e
      obtain ⟨w, B, h1, h2⟩ := r0.at_ (.inr e)
      simp only [Own] at h2
      exact .inr ⟨d, w, rfl, by rw [wipe_at n1]; exact h1, h2.2.gr g⟩
    · exact .inl rfl
theorem wipe_get : ∀ {vs : List Nat} {j : Nat} {σ : L2.St}, j ∈ vs → j < σ.length → (L2.wipe σ vs)[j]? = some none
  | v :: vs, j, σ, h, hl => by
    show ((L2.wipe σ vs).set v none)[j]? = _
    by_cases q : j = v
    · subst q
      rw [List.getElem?_set_self (by rw [wipe_length]; exact hl)]
    · rw [List.getElem?_set_ne (Ne.symm q)]
      rcases List.mem_cons.mp h with z | z
      · exact absurd z q
      · exact wipe_get z hl
theorem wipe_eq {vs : List Nat} {σ σ' : L2.St} (hl : σ'.length = σ.length) (h : ∀ j, j ∉ vs → σ'[j]? = (L2.wipe σ vs)[j]?) : L2.wipe σ' vs = L2.wipe σ vs := by
  apply List.ext_getElem?
  intro j
  by_cases q : j ∈ vs
  · by_cases hj : j < σ.length
    · rw [wipe_get q (by rw [hl]; exact hj), wipe_get q hj]
    · rw [List.getElem?_eq_none (by rw [wipe_length]; omega), List.getElem?_eq_none (by rw [wipe_length]; omega)]
  · rw [wipe_at q]; exact h j q
/-- a new item for a list of one's own -/
theorem RepV.push {acc : List D} {Dd : Addr} {d : D} {y : V} (r : RepV G C F H σ env (.lst acc) (.ref Dd)) (dy : Den G F d y) : ∃ ws, H Dd = some (.lst ws) ∧ ws.length = acc.length ∧ RepV G C F (upd H Dd (.lst (ws ++ [y]))) σ env (.lst (acc ++ [d])) (.ref Dd) := by
  have r2 := r
  obtain ⟨fp, A, r0, o, nd, mi, dj⟩ := r
  obtain ⟨a, ws, e, _, f, h1, h2⟩ := o.lst_inv
  cases e
  refine ⟨ws, h1, h2.len, r2.change fun A oA ndA fA => ?_⟩
  obtain ⟨a', ws', e', rfl, f', h1', h2'⟩ := oA.lst_inv
  cases e'
  rw [h1] at h1'; cases h1'
  obtain ⟨s, sub⟩ := upd_step (o := .lst (ws ++ [y])) f r0.sub (fun ps z => by rw [h1] at z; cases z)
  exact ⟨[Dd], fun _ z => z, s, sub, [Dd], by simp only [Own]; exact ⟨Dd, _, rfl, rfl, f, upd_same, h2.app (DenL.one dy)⟩, by simp, fun a ha => .inl ha⟩
end
/-! ### the block's parts, whatever is held beside -/
def exG (G : Tx) (C : DCtx) (vs : List Nat) (gt : D → Env → Option Env) : TG := fun v σ H Q => ∃ C', C'.pv = C.pv ∧ dG G C' vs gt v σ H Q
def exT (G : Tx) (C : DCtx) (g : Env → Out Bool) : TT := fun σ H Q => ∃ C', C'.pv = C.pv ∧ dT G W0 C' g σ H Q
def exE (G : Tx) (C : DCtx) (g : Env → Out D) : TE := fun σ H Q => ∃ C', C'.pv = C.pv ∧ dE G W0 C' g σ H Q
def exI (G : Tx) (C : DCtx) (g : Env → Out (List D)) : TI := fun σ H Q => ∃ C', C'.pv = C.pv ∧ dI G W0 C' g σ H Q
section
variable {X : Cx} {G : Tx} {C : DCtx} {e tg : Expr} {vs : List Nat}
theorem pg_ex {gt : D → Env → Option Env} (h : ∀ C', C'.pv = C.pv → DG X G C' e vs gt) : PG X e (exG G C vs gt) := ⟨fun pins s σ H v u Q I r ⟨C', hC, w⟩ => (h C' hC).run pins s σ H v u Q I r w⟩
theorem pt_ex {g : Env → Out Bool} (h : ∀ C', C'.pv = C.pv → DT X G W0 C' e g) : PT X e (exT G C g) := ⟨fun pins s σ H Q I ⟨C', hC, w⟩ => (h C' hC).run pins s σ H Q I w⟩
theorem pe_ex {g : Env → Out D} (h : ∀ C', C'.pv = C.pv → DE X G W0 C' e g) : PE X e (exE G C g) := ⟨fun pins s σ H Q I ⟨C', hC, w⟩ => (h C' hC).run pins s σ H Q I w⟩
theorem pi_ex {g : Env → Out (List D)} (h : ∀ C', C'.pv = C.pv → DI X G W0 C' tg e g) : PI X tg e (exI G C g) := ⟨fun pins s σ H Q I ⟨C', hC, w⟩ => (h C' hC).run pins s σ H Q I w⟩
/-- the tests of a clause -/
def DTs (X : Cx) (G : Tx) (C : DCtx) (ifs : List Expr) (g : Env → Out Bool) : Prop := PTs X ifs (exT G C g)
theorem dts_nil : DTs X G C [] (fun e => .ok true e) := ⟨fun pins s σ H Q I ⟨C', hC, F, env, r, q⟩ => pts_nil.run pins s σ H Q I (q true H F (.refl F) ⟨r, rfl⟩)⟩
theorem dts_one {g : Env → Out Bool} (h : ∀ C', C'.pv = C.pv → DT X G W0 C' e g) : DTs X G C [e] g := pts_one (pt_ex h)
end
def compD (gt : D → Env → Option Env) (gc : Env → Out Bool) (ge : Env → Out D) (vs : List Nat) : List D → Env → List D → Out (List D)
  | [], env, acc => .ok acc env
  | d :: r, env, acc => match gt d env with
    | none => .fail
    | some e1 => match gc e1 with
      | .ok true e2 => (match ge e2 with
        | .ok y e3 => if acc.length < sizeLine then compD gt gc ge vs r (wipeE e3 vs) (acc ++ [y]) else .fail
        | _ => .fail)
      | .ok false e2 => compD gt gc ge vs r (wipeE e2 vs) acc
      | _ => .fail
def compG (gi : Env → Out (List D)) (gt : D → Env → Option Env) (gc : Env → Out Bool) (ge : Env → Out D) (vs : List Nat) (env : Env) : Out T := (gi env).bind fun ds e0 => match compD gt gc ge vs ds (wipeE e0 vs) [] with
  | .ok acc e' => .ok (.lst acc) (restE e0 e' vs)
  | _ => .fail
section
variable {X : Cx} {G : Tx} {W : WX} {C : DCtx} {vs : List Nat} {gi : Env → Out (List D)} {gt : D → Env → Option Env} {gc : Env → Out Bool} {ge : Env → Out D}
theorem lc_read (hv : vs.Nodup) (hp : ∀ i ∈ vs, ∀ w, (i, w) ∉ C.pv) {σ : L2.St} {H : Hp} {Q : VK} {F : Hp} {env : Env} (rp : Rep G C F H σ env) (h : pst (RlO G C σ) (exW G W C σ) Q F (compG gi gt gc ge vs env)) :
    tLc (dI G W C gi) (exG G C vs gt) (exT G C gc) (exE G C ge) vs σ H Q := by
  refine ⟨F, env, rp, pst_bind h fun ds e0 J H1 F1 g1 r1 h1 => ?_⟩
  obtain ⟨r1, Gp, Y, w, hG, hY⟩ := r1
  intro Dd hD
  cases ec : compD gt gc ge vs ds (wipeE e0 vs) [] with
  | fail => rw [ec] at h1; exact h1.elim
  | exc x e => rw [ec] at h1; exact h1.elim
  | ok accF eF =>
    rw [ec] at h1
    have rw0 : Rep G C F1 H1 (L2.wipe σ vs) (wipeE e0 vs) := Rep.wipe vs r1 hp
    have rD : RepV G C F1 (upd H1 Dd (.lst [])) (L2.wipe σ vs) (wipeE e0 vs) (.lst []) (.ref Dd) := rw0.newO hD (by
      simp only [Own, DenL]
      refine ⟨Dd, [], rfl, rfl, ?_, upd_same, rfl⟩
      cases z : F1 Dd with
      | none => rfl
      | some u => rw [r1.sub Dd u z] at hD; cases hD)
    refine lc_it w (fun i H => ∃ F env acc, Gr F1 F ∧ RepV G C F H (L2.wipe σ vs) env (.lst acc) (.ref Dd) ∧ compD gt gc ge vs (ds.drop i) env acc = .ok accF eF) ⟨F1, _, [], .refl F1, rD, by simpa using ec⟩ (fun i H _ ⟨F, env, acc, g, r, _⟩ => hG F H g r.rep.sub) ?_ ?_
    · rintro i x H2 H2' hi ⟨F2, env2, acc, g2, r2, q⟩ y
      have ed : ds.drop i = ds[i] :: ds.drop (i + 1) := List.drop_eq_getElem_cons hi
      obtain ⟨F3, l, dx⟩ := hY i ds[i] F2 H2 x H2' g2 r2.rep.sub (by simp [hi]) y
      rw [ed] at q
      simp only [compD] at q
      obtain ⟨C', pvC, _, rC, back⟩ := r2.hold
      cases eg : gt ds[i] env2 with
      | none => rw [eg] at q; cases q
      | some e1 =>
        rw [eg] at q
        simp only at q
        refine ⟨C', pvC, F3, ds[i], env2, e1, rC.lay l, dx, eg, fun σ4 H4 F4 g4 l4 r4 n4 s4 => ?_⟩
        have hw : L2.wipe σ4 vs = L2.wipe σ vs := wipe_eq (by rw [n4, wipe_length]) s4
        refine ⟨hw, C', pvC, F4, e1, r4, ?_⟩
        have wipeR : ∀ {F' H' : Hp} {env' : Env} {acc' : List D}, RepV G C F' H' σ4 env' (.lst acc') (.ref Dd) → RepV G C F' H' (L2.wipe σ vs) (wipeE env' vs) (.lst acc') (.ref Dd) := fun {F' H' env' acc'} r => by
          rw [← hw]
          exact RepV.wipe vs r hp
        cases ecc : gc e1 with
        | fail => rw [ecc] at q; cases q
        | exc x e => rw [ecc] at q; cases q
        | ok b e2 =>
          rw [ecc] at q
          cases b with
          | false =>
            simp only at q
            rintro b' H5 F5 g5 ⟨r5, rfl⟩
            refine ⟨F5, _, acc, ((g2.trans l.gr).trans g4).trans g5, wipeR (back r5), q⟩
          | true =>
            simp only at q
            rintro b' H5 F5 g5 ⟨r5, rfl⟩
            rw [if_pos rfl]
            refine ⟨C', pvC, F5, e2, r5, ?_⟩
            cases ee : ge e2 with
            | fail => rw [ee] at q; cases q
            | exc x e => rw [ee] at q; cases q
            | ok d e3 =>
              rw [ee] at q
              simp only at q
              split at q
              · rename_i hl
                rintro z H6 F6 g6 ⟨r6, d6⟩
                obtain ⟨ws, k1, k2, k3⟩ := (back r6).push d6
                exact ⟨ws, k1, by rw [k2]; exact hl, F6, _, acc ++ [d], (((g2.trans l.gr).trans g4).trans g5).trans g6, wipeR k3, q⟩
              · cases q
    · rintro H2 ⟨F2, env2, acc, g2, r2, q⟩
      rw [List.drop_length] at q
      simp only [compD] at q
      cases q
      exact h1 _ H2 F2 g2 (RepV.rest r1 g2 vs hv r2)
variable {elt tg iter : Expr} {ifs : List Expr} {scope : Scope} {own : List (Str × Nat)} {pos spos : Pos}
theorem do_lc (hc : X.calm = true) (hN : X.N.Nodup) (hp : ∀ i ∈ own.map (·.2), ∀ w, (i, w) ∉ C.pv) (hv : (own.map (·.2)).Nodup) (hi : DI X G W C tg iter gi) (ok : BlkOk X.N X.env.scope scope own)
    (hg : ∀ (s : Shared) (H : Hp) (Cc : Addr) (cl : List (Str × Addr)) (fp : List Addr) (C' : DCtx), C'.pv = C.pv → DG (X.blk s H scope (compEnvC scope cl Cc X.env) fp) G C' tg (own.map (·.2)) gt)
    (ht : ∀ (s : Shared) (H : Hp) (Cc : Addr) (cl : List (Str × Addr)) (fp : List Addr), DTs (X.blk s H scope (compEnvC scope cl Cc X.env) fp) G C ifs gc)
    (he : ∀ (s : Shared) (H : Hp) (Cc : Addr) (cl : List (Str × Addr)) (fp : List Addr) (C' : DCtx), C'.pv = C.pv → DE (X.blk s H scope (compEnvC scope cl Cc X.env) fp) G W0 C' elt ge) (hs : ∀ x, foldedSetIterable iter X.env x = pure x := by intro _; rfl) :
    DO X G W C (.ListComp elt [⟨tg, iter, ifs, 0⟩] scope pos) (compG gi gt gc ge (own.map (·.2))) :=
  PE_imp (pe_lc hc hN hi ok (fun s H Cc cl fp => pg_ex (hg s H Cc cl fp)) ht (fun s H Cc cl fp => pe_ex (he s H Cc cl fp)) hs) fun σ H Q ⟨F, env, r, q⟩ => lc_read hv hp r q
theorem ds_setLc {i : Nat} {y : Str} {py : Pos} (hpi : ∀ w, (i, w) ∉ C.pv) (hc : X.calm = true) (hN : X.N.Nodup) (hy : X.N[i]? = some y) (hyl : X.env.scope.names.lookup y = some .local)
    (hsw : swapsWith (.ListComp elt [⟨tg, iter, ifs, 0⟩] scope pos) (some (.Name y py)) spos.line X.env = pure true) (hp : ∀ i ∈ own.map (·.2), ∀ w, (i, w) ∉ C.pv) (hv : (own.map (·.2)).Nodup) (hi : DI X G W C tg iter gi) (ok : BlkOk X.N X.env.scope scope own)
    (hg : ∀ (s : Shared) (H : Hp) (Cc : Addr) (cl : List (Str × Addr)) (fp : List Addr) (C' : DCtx), C'.pv = C.pv → DG (X.blk s H scope (compEnvC scope cl Cc X.env) fp) G C' tg (own.map (·.2)) gt)
    (ht : ∀ (s : Shared) (H : Hp) (Cc : Addr) (cl : List (Str × Addr)) (fp : List Addr), DTs (X.blk s H scope (compEnvC scope cl Cc X.env) fp) G C ifs gc)
    (he : ∀ (s : Shared) (H : Hp) (Cc : Addr) (cl : List (Str × Addr)) (fp : List Addr) (C' : DCtx), C'.pv = C.pv → DE (X.blk s H scope (compEnvC scope cl Cc X.env) fp) G W0 C' elt ge) (hs : ∀ x, foldedSetIterable iter X.env x = pure x := by intro _; rfl) :
    DS X G W C (.Assign [.Name y py] (.ListComp elt [⟨tg, iter, ifs, 0⟩] scope pos) spos) (fun env => (compG gi gt gc ge (own.map (·.2)) env).bind (stv i)) :=
  PS_imp (ps_setLc hc hN hy hyl hsw hi ok (fun s H Cc cl fp => pg_ex (hg s H Cc cl fp)) ht (fun s H Cc cl fp => pe_ex (he s H Cc cl fp)) hs) fun N σ H ⟨F, env, r, q⟩ =>
    lc_read hv hp r (pS_bind q fun t e v H1 F1 g1 r1 h1 => h1 (σ.set i (some v)) H1 F1 (.refl F1) (RepV.set r1 hpi))
end
end DL

end
section
namespace DL
open PySem PySem.Spec PyProof.Rows L2
variable [TB]
/-! ### a, b = e, f: two names -/
section
variable {X : Cx} {G : Tx} {W : WX} {C : DCtx} {a b e : Expr} {es : List Expr} {pos : Pos} {x y : Str} {i j : Nat} {ga gb : Env → Out T}
theorem ds_par {px py pt : Pos} {kt k2 : Nat} {pt2 : Pos} (hpi : ∀ w, (i, w) ∉ C.pv) (hpj : ∀ w, (j, w) ∉ C.pv) (hc : X.calm = true) (hN : X.N.Nodup) (hi : X.N[i]? = some x) (hj : X.N[j]? = some y) (hij : i ≠ j)
    (hx : X.env.scope.names.lookup x = some .local) (hy : X.env.scope.names.lookup y = some .local) (ha : DO X G W C a ga) (hb : ∀ C', C'.pv = C.pv → DO X G W C' b gb)
    (hw : swappedStores [.Tuple [.Name x px, .Name y py] kt pt] (.Tuple [a, b] k2 pt2) X.env = pure (some [x, y]))
    (hs : swapsWithSole [.Tuple [.Name x px, .Name y py] kt pt] (.Tuple [a, b] k2 pt2) pos.line X.env = pure false := by rfl)
    (h1 : starEach [a, b] X.env = (false, eval a X.env) :: starEach [b] X.env := by rfl) (h2 : starEach [b] X.env = (false, eval b X.env) :: starEach [] X.env := by rfl) :
    DS X G W C (.Assign [.Tuple [.Name x px, .Name y py] kt pt] (.Tuple [a, b] k2 pt2) pos) (fun env => (ga env).bind fun t e => (gb e).bind fun u e => .ok .nx ((e.set i (some (.own t))).set j (some (.own u)))) := by
  have hb' : PE X b (fun σ H Q => ∃ C', C'.pv = C.pv ∧ dO G W C' gb σ H Q) := ⟨fun pins s σ H Q I ⟨C', hC, w⟩ => (hb C' hC).run pins s σ H Q I w⟩
  refine PS_imp (ps_par hc hN hi hj hij hx hy (pa_cons ha (pa_cons hb' pa_nil h2) h1) hw hs) fun N σ H ⟨F, env, rp, h⟩ => ⟨F, env, rp, pS_bind h fun t e v H1 F1 g1 r1 q1 => ?_⟩
  obtain ⟨C', pvC, _, rC, back⟩ := RepV.hold r1
  refine ⟨C', pvC, F1, e, rC, ?_⟩
  have fin : ∀ (u : T) (e2 : Env) (w : V) (H2 F2 : Hp), Gr F1 F2 → RepV G C' F2 H2 σ e2 u w → pS G W C N F2 (.ok .nx ((e2.set i (some (.own t))).set j (some (.own u)))) → N.nx ((σ.set i (some v)).set j (some w)) H2 := fun u e2 w H2 F2 g2 r2 q2 => by
    have s1 : Rep G C' F2 H2 (σ.set j (some w)) (e2.set j (some (.own u))) := RepV.set r2 (by rw [pvC]; exact hpj)
    have s3 := RepV.set (back s1) hpi
    have c1 : (σ.set j (some w)).set i (some v) = (σ.set i (some v)).set j (some w) := List.set_comm _ _ (Ne.symm hij)
    have c2 : (e2.set j (some (Ent.own u))).set i (some (.own t)) = (e2.set i (some (.own t))).set j (some (.own u)) := List.set_comm _ _ (Ne.symm hij)
    rw [c1, c2] at s3
    exact q2 _ H2 F2 (.refl F2) s3
  cases eb : gb e with
  | fail => rw [eb] at q1; exact q1.elim
  | exc x2 e2 =>
    rw [eb] at q1
    exact fun cls dd H2 F2 g2 r2 dx => q1 cls dd σ H2 F2 g2 (back r2).rep dx
  | ok u e2 =>
    rw [eb] at q1
    exact fun w H2 F2 g2 r2 => ⟨v, w, rfl, fin u e2 w H2 F2 g2 r2 (pS.gr (show pS G W C N F1 (.ok .nx ((e2.set i (some (.own t))).set j (some (.own u)))) from q1) g2)⟩
end
/-! ### (a, b, ..) = e -/
section
variable {X : Cx} {G : Tx} {W : WX} {C : DCtx} {a b e o value : Expr} {es : List Expr} {pos pos' : Pos} {x y f : Str} {i j : Nat} {ge : Env → Out D} {go : Env → Out T} {vs : List Nat} {p : Pth}
def asgG (gt : D → Env → Option Env) (ge : Env → Out D) (env : Env) : Out Fl := (ge env).bind fun d e => match gt d e with
  | some e' => .ok .nx e'
  | none => .fail
theorem ds_asg {tg : Expr} {gt : D → Env → Option Env} (he : DE X G W C e ge) (hg : DG X G C tg vs gt) (hs : swapsWithSole [tg] e pos.line X.env = pure false := by rfl) (hw : swappedStores [tg] e X.env = pure none := by rfl)
    (h1 : (assignEach [tg] X.env).map (·.2) = [assign tg X.env] := by rfl) : DS X G W C (.Assign [tg] e pos) (asgG gt ge) :=
  PS_imp (ps_asg he hg hs hw h1) fun N σ H ⟨F, env, rp, h⟩ => ⟨F, env, rp, pS_bind h fun d e1 v H1 F1 g1 r1 q1 => by
    cases eg : gt d e1 with
    | none => rw [eg] at q1; exact q1.elim
    | some e2 =>
      rw [eg] at q1
      exact ⟨F1, d, e1, e2, r1.1, r1.2, eg, fun σ' H' F' g l r _ _ => q1 σ' H' F' g r⟩⟩
/-! ### P.f = e -/
theorem OwnF.put {F H : Hp} {t : T} {y : V} {A : List Addr} (ot : Own G F H t y A) (ndA : A.Nodup) : ∀ {fs : List (Str × T)} {vs : List (Str × V)} {B : List Addr}, OwnF G F H fs vs B → B.Nodup → (∀ a ∈ B, a ∉ A) → ∃ B', OwnF G F H (putT f t fs) (putF f y vs) B' ∧ B'.Nodup ∧ ∀ a ∈ B', a ∈ B ∨ a ∈ A
  | [], vs, B, h, nd, dj => by
    simp only [OwnF] at h
    obtain ⟨rfl, rfl⟩ := h
    exact ⟨A ++ [], by simp only [putT, putF, OwnF]; exact ⟨y, [], A, [], rfl, rfl, ot, rfl, rfl⟩, by simpa using ndA, fun a ha => .inr (by simpa using ha)⟩
  | (k, u) :: r, vs, B, h, nd, dj => by
    simp only [OwnF] at h
    obtain ⟨v, q, P, S, rfl, rfl, h1, h2⟩ := h
    obtain ⟨n1, n2, n3⟩ := List.nodup_append.mp nd
    by_cases hk : k = f
    · subst hk
      refine ⟨A ++ S, ?_, List.nodup_append.mpr ⟨ndA, n2, fun a ha b hb z => ?_⟩, fun a ha => ?_⟩
      · simp only [putT, putF, if_pos, OwnF]
        exact ⟨y, q, A, S, rfl, rfl, ot, h2⟩
      · subst z; exact dj a (by simp [hb]) ha
      · rcases List.mem_append.mp ha with z | z
        · exact .inr z
        · exact .inl (by simp [z])
    · obtain ⟨B', o', nd', i'⟩ := OwnF.put ot ndA h2 n2 fun a ha => dj a (by simp [ha])
      refine ⟨P ++ B', ?_, List.nodup_append.mpr ⟨n1, nd', fun a ha b hb z => ?_⟩, fun a ha => ?_⟩
      · simp only [putT, putF, if_neg hk, OwnF]
        exact ⟨v, putF f y q, P, B', rfl, rfl, h1, o'⟩
      · subst z
        rcases i' a hb with w | w
        · exact n3 a ha a w rfl
        · exact dj a (by simp [ha]) w
      · rcases List.mem_append.mp ha with z | z
        · exact .inl (by simp [z])
        · rcases i' a z with w | w
          · exact .inl (by simp [w])
          · exact .inr w
def fldG (i : Nat) (p : Pth) (cs : List Nat) (f : Str) (go : Env → Out T) (env : Env) : Out Fl := (go env).bind fun t e => match rdo i p e with
  | some (.ins c fs) => if c ∈ cs ∧ fs.length < 1000 then (match putG i p (.ins c (putT f t fs)) e with
    | some e' => .ok .nx e'
    | none => .fail) else .fail
  | _ => .fail
theorem ds_fld (cs : List Nat) (hK : X.K = G.K) (ok : POk G p) (ak : AOk G cs f) (hp : DP X G o i p) (hv : DO X G W C value go) (hs : swapsWith value (some (.Attribute o f pos')) pos.line X.env = pure false := by rfl) : DS X G W C (.Assign [.Attribute o f pos'] value pos) (fldG i p cs f go) := by
  refine PS_imp (ps_fld hp hv hs) fun N σ H ⟨F, env, rp, h⟩ => ⟨F, env, rp, pS_bind h fun t e y H1 F1 g1 r1 q1 => ?_⟩
  split at q1
  · rename_i c fs e0
    split at q1
    · rename_i hcl
      obtain ⟨fp, N', r, ot, ndN, mN, dN⟩ := r1
      obtain ⟨v, w, B, h1, h2, h3, ndB, _, mB, dB, h5⟩ := r.own_at mN dN ok e0
      simp only [Own] at h3
      obtain ⟨a, C', dx, vs', Bs, rfl, rfl, hc, fa, ha, ho⟩ := h3
      obtain ⟨k1, k2⟩ := ak c hcl.1 C' hc
      obtain ⟨na, nB⟩ := List.nodup_cons.mp ndB
      obtain ⟨B', o', nd', i'⟩ := OwnF.put (f := f) ot ndN ho nB fun b hb => dB b (by simp [hb])
      obtain ⟨s, sub⟩ := upd_step (o := .ins C' dx (putF f y vs')) fa r.sub (fun ps z => by rw [ha] at z; cases z)
      have na' : a ∉ B' := fun z => by
        rcases i' a z with w | w
        · exact na w
        · exact dB a (by simp) w
      obtain ⟨env', e1, k⟩ := h5 (t' := .ins c (putT f t fs)) (B' := a :: B') s (fun b hb => by rw [List.mem_singleton] at hb; simp [hb]) sub (by
          simp only [Own]
          exact ⟨a, C', dx, putF f y vs', B', rfl, rfl, hc, fa, upd_same, o'.step s fun b hb z => by rw [List.mem_singleton] at z; subst z; exact na' hb⟩)
        (List.nodup_cons.mpr ⟨na', nd'⟩) (fun b hb => by
          rcases List.mem_cons.mp hb with rfl | hb
          · exact .inl (by simp)
          · rcases i' b hb with w | w
            · exact .inl (by simp [w])
            · exact .inr (.inr w))
      rw [e1] at q1
      rw [hK]
      refine ⟨v, _, h1, h2, a, C', dx, vs', rfl, ha, k1, k2, by rw [← List.length_map (f := (·.1)), ho.names, List.length_map]; exact hcl.2, ?_⟩
      exact q1 σ _ F1 (.refl F1) (k (u := .fz .non) (y := .non) (Br := []) (by simp [Own, Den]) List.nodup_nil (fun _ z => nomatch z) (fun _ z => nomatch z)).rep
    · exact q1.elim
  · exact q1.elim
/-! ### P.f += e, ints -/
def fldAugG (i : Nat) (p : Pth) (cs : List Nat) (f : Str) (ge : Env → Out D) (env : Env) : Out Fl := match rdo i p env with
  | some (.ins c fs) => (match fs.lookup f with
    | some (.fz (.int n)) => if c ∈ cs ∧ fs.length < 1000 then (pur ge env).bind fun d e => match d with
      | .int m => (match putG i p (.ins c (putT f (.fz (.int (n + m))) fs)) e with
        | some e' => .ok .nx e'
        | none => .fail)
      | _ => .fail else .fail
    | _ => .fail)
  | _ => .fail
theorem ds_fldaug (cs : List Nat) (hK : X.K = G.K) (ok : POk G p) (ak : AOk G cs f) (hp : DP X G o i p) (hv : ∀ C', C'.pv = [] → DE X G W C' value ge) : DS X G W C (.AugAssign (.Attribute o f pos') .Add value pos) (fldAugG i p cs f ge) := by
  refine PS_imp (ps_fldaug hp (pe_pur (C := C) hv) in_add) fun N σ H ⟨F, env, rp, q⟩ => ?_
  unfold fldAugG at q
  split at q
  · rename_i c fs e0
    split at q
    · rename_i n el
      obtain ⟨v, w, B, h1, h2, h3, ndB, _, mB, h5⟩ := rp.own_at ok e0
      simp only [Own] at h3
      obtain ⟨a, C', dx, vs', Bs, rfl, rfl, hc, fa, ha, ho⟩ := h3
      obtain ⟨u, Bu, l1, l2, _⟩ := ho.look el
      simp only [Own, Den] at l2
      obtain ⟨_, rfl⟩ := l2
      split at q
      · rename_i hcl
        obtain ⟨k1, k2⟩ := ak c hcl.1 C' hc
        rw [hK]
        refine ⟨v, _, h1, h2, a, C', dx, vs', _, rfl, ha, k1, k2, l1, F, env, rp, pS_pur q fun d y H1 F1 l dy q1 => ?_⟩
        cases d with
        | int m =>
          simp only [Den] at dy
          simp only at q1
          obtain ⟨v', w', B', m1, m2, m3, ndB', _, mB', m5⟩ := (rp.lay l).own_at ok e0
          rw [h1] at m1; cases m1
          have ew := (rdo_dropped h2 l).det m2
          simp only [Own] at m3
          obtain ⟨a', C'', dx', vs2, Bs', e2, rfl, hc', fa', ha', ho'⟩ := m3
          rw [← ew] at e2; cases e2
          rw [hc] at hc'; cases hc'
          obtain ⟨na, nB⟩ := List.nodup_cons.mp ndB'
          obtain ⟨B2, o2, nd2, i2⟩ := OwnF.put (f := f) (t := .fz (.int (n + m))) (y := .int (n + m)) (A := []) (by simp [Own, Den]) List.nodup_nil ho' nB fun _ _ z => nomatch z
          obtain ⟨s, sub⟩ := upd_step (o := .ins C' dx' (putF f (.int (n + m)) vs2)) fa' l.sub (fun ps z => by rw [ha'] at z; cases z)
          have na' : a ∉ B2 := fun z => by
            rcases i2 a z with w | w
            · exact na w
            · cases w
          obtain ⟨env', e1, k⟩ := m5 (t' := .ins c (putT f (.fz (.int (n + m))) fs)) (B' := a :: B2) s (fun b hb => by rw [List.mem_singleton] at hb; simp [hb]) sub (by
              rw [← ew]
              simp only [Own]
              exact ⟨a, C', dx', _, B2, rfl, rfl, hc, fa', upd_same, o2.step s fun b hb z => by rw [List.mem_singleton] at z; subst z; exact na' hb⟩)
            (List.nodup_cons.mpr ⟨na', nd2⟩) (fun b hb => by
              rcases List.mem_cons.mp hb with rfl | hb
              · exact .inl (by simp)
              · rcases i2 b hb with w | w
                · exact .inl (by simp [w])
                · cases w)
          rw [e1] at q1
          exact ⟨n, m, rfl, dy, dx', vs2, ha', by rw [← List.length_map (f := (·.1)), ho'.names, List.length_map]; exact hcl.2,
            q1 σ _ F1 (.refl F1) (k (u := .fz .non) (y := .non) (Br := []) (by simp [Own, Den]) List.nodup_nil (fun _ z => nomatch z) (fun _ z => nomatch z)).rep⟩
        | _ => exact q1.elim
      · exact q.elim
    · exact q.elim
  · exact q.elim
end
end DL

end
section
namespace DL
open PySem PySem.Spec PyProof.Rows L2
variable [TB]
/-! ### exceptions with fields, made by their own __init__ -/
/-- what such an __init__ does: fields fns, in this order, from the arguments -/
def spX (C : Addr) (fns : List Str) : Sp := fun vs H Q _ => ∃ a ws, vs = .ref a :: ws ∧ ws.length = fns.length ∧ H a = some (exo a C none) ∧
  ∀ d H2, H d = none → d ≠ a → H2 a = some (exo a C (some d)) → H2 d = some (exd d (fns.zip ws).reverse) → (∀ b, b ≠ a → b ≠ d → H2 b = H b) → Q .non H2
section
variable {P : Program} {w : World} {K : PySem.W.Frag} {mg : Str → Option Value} {base : Heap}
theorem initX1 {x qual s1 p1 f1 : Str} {st : Stmt} {f C : Addr} {fd : FuncData} (Fn : Fun K x qual st f fd) (S : FnScope [s1, p1] [s1, p1] (defScope st)) (T : OexC K C) (hno : PySem.W.findIn K (.ref C) f1 = some none)
    (hb : ∀ (cdv : Value) (A : Around) (outer : List PySem.Env) (s : Shared) (H : Hp) (E : XK), PSs (cxOf (L2.CX P w) P w K mg base [s1, p1] qual (defScope st) f cdv A outer s H E) (defBody st) (tOst K f1 (tVar 0) (tVar 1))) :
    FnOk P w K mg base (L2.CX P w) 1 f fd [s1, p1] (spX C [f1]) := by
  refine Fun.okX (k := 0) Fn S (fun vs H Q E ⟨a, ws, e, hl, _⟩ => by rw [e]; simpa using hl) fun cdv A outer s H vs Q E hr h => ⟨_, hb cdv A outer s H E, ?_⟩
  obtain ⟨a, ws, rfl, hl, ha, k⟩ := h
  obtain ⟨y, rfl⟩ : ∃ y, ws = [y] := by
    match ws, hl with
    | [y], _ => exact ⟨y, rfl⟩
  refine ⟨y, rfl, .ref a, rfl, a, C, rfl, T, hno, .inl ⟨ha, fun dx n ne => ?_⟩⟩
  refine k dx _ n ne upd_same (by rw [upd_ne ne, upd_same]; rfl) fun b n1 n2 => by rw [upd_ne n1, upd_ne n2]
theorem initX2 {x qual s1 p1 p2 f1 f2 : Str} {st : Stmt} {f C : Addr} {fd : FuncData} (Fn : Fun K x qual st f fd) (S : FnScope [s1, p1, p2] [s1, p1, p2] (defScope st)) (T : OexC K C) (hno : PySem.W.findIn K (.ref C) f1 = some none) (hno2 : PySem.W.findIn K (.ref C) f2 = some none)
    (hb : ∀ (cdv : Value) (A : Around) (outer : List PySem.Env) (s : Shared) (H : Hp) (E : XK), PSs (cxOf (L2.CX P w) P w K mg base [s1, p1, p2] qual (defScope st) f cdv A outer s H E) (defBody st) (tSeq (tOst K f1 (tVar 0) (tVar 1)) (tOst K f2 (tVar 0) (tVar 2)))) :
    FnOk P w K mg base (L2.CX P w) 1 f fd [s1, p1, p2] (spX C [f1, f2]) := by
  refine Fun.okX (k := 0) Fn S (fun vs H Q E ⟨a, ws, e, hl, _⟩ => by rw [e]; simpa using hl) fun cdv A outer s H vs Q E hr h => ⟨_, hb cdv A outer s H E, ?_⟩
  obtain ⟨a, ws, rfl, hl, ha, k⟩ := h
  obtain ⟨y, z, rfl⟩ : ∃ y z, ws = [y, z] := by
    match ws, hl with
    | [y, z], _ => exact ⟨y, z, rfl⟩
  refine ⟨y, rfl, .ref a, rfl, a, C, rfl, T, hno, .inl ⟨ha, fun dx n ne => ?_⟩⟩
  refine ⟨z, rfl, .ref a, rfl, a, C, rfl, T, hno2, .inr ⟨dx, _, upd_same, by rw [upd_ne ne, upd_same], by simp, ?_⟩⟩
  refine k dx _ n ne (by rw [upd_ne (Ne.symm ne), upd_same]) (by rw [upd_same]; rfl) fun b n1 n2 => by rw [upd_ne n2, upd_ne n1, upd_ne n2]
end
structure HasX (P : Program) (w : World) (G : Tx) (mg : Str → Option Value) (base : Heap) (x : Str) (c k : Nat) (fns : List Str) : Prop where
  ex : ∃ C f fd ps, G.ct c = some C ∧ mg x = some (.ref C) ∧ OexC G.K C ∧ PySem.W.findIn G.K (.ref C) "__init__" = some (some (.ref f)) ∧ PySem.W.typeIn G.K (.ref f) = some (.type "function") ∧ FnOk P w G.K mg base (L2.CX P w) k f fd ps (spX C fns) ∧ Binds G.K fd ps []
section
variable {X : Cx} {G : Tx} {W : WX} {C : DCtx} {a b e : Expr} {es : List Expr} {pos : Pos} {x : Str} {gs : Env → Out (List D)}
def raiG (c : Nat) (fns : List Str) (gs : Env → Out (List D)) (env : Env) : Out Fl := (gs env).bind fun ds e => if ds.length = fns.length ∧ fns.length ≤ 1000 then .exc ⟨c, (fns.zip ds).reverse⟩ e else .fail
theorem DenF.app {F : Hp} : ∀ {fs gs : List (Str × D)} {vs ws : List (Str × V)}, DenF G F fs vs → DenF G F gs ws → DenF G F (fs ++ gs) (vs ++ ws)
  | [], gs, vs, ws, h, h' => by
    simp only [DenF] at h
    rw [h]; exact h'
  | (n, d) :: fs, gs, vs, ws, h, h' => by
    simp only [DenF] at h
    obtain ⟨v, r, rfl, h1, h2⟩ := h
    simp only [List.cons_append, DenF]
    exact ⟨v, _, rfl, h1, h2.app h'⟩
theorem denF_zip {F : Hp} : ∀ {fns : List Str} {ds : List D} {vs : List V}, DenL G F ds vs → DenF G F (fns.zip ds).reverse (fns.zip vs).reverse
  | [], ds, vs, h => by simp [DenF]
  | n :: fns, [], vs, h => by
    simp only [DenL] at h
    rw [h]; simp [DenF]
  | n :: fns, d :: ds, vs, h => by
    simp only [DenL] at h
    obtain ⟨v, r, rfl, h1, h2⟩ := h
    simp only [List.zip_cons_cons, List.reverse_cons]
    exact (denF_zip h2).app (by simp only [DenF]; exact ⟨v, [], rfl, h1, rfl⟩)
theorem ds_raise {c k : Nat} {fns : List Str} {q : Pos} {pos2 : Pos} (hc : X.calm = true) (tk : Takes X W) (hK : X.K = G.K) (h : HasX X.prog X.w G X.mg X.base x c k fns) (hr : Room (k + 1) X.A) (hg : Gl X x) (ha : DA X G W C (e :: es) gs) (hdb : (x == ("__debug__" : Str)) = false := by decide)
    (he : starEach (e :: es) X.env = (false, eval e X.env) :: starEach es X.env := by rfl) (hpl : (backTo pos (starEach es X.env)).any (·.1) = false := by rfl) : DS X G W C (.Raise (some (.Call (.Name x q) (e :: es) [] pos)) none pos2) (raiG c fns gs) := by
  obtain ⟨C', f, fd, ps, h0, h1, h2, h3, h4, h5, h6⟩ := h.ex
  rw [← hK] at h2 h3 h4 h5 h6
  refine PS_imp (ps_raise hc tk (pmk_oex h2 h3 h4 h5 hr h6 .nil passL hg h1 ha hdb he hpl)) fun N σ H ⟨F, env, rp, q⟩ => ⟨F, env, rp, pS_bind q fun ds e1 vs H1 F1 g1 r1 q1 => ?_⟩
  split at q1
  · rename_i hl
    have hlv : vs.length = fns.length := by rw [r1.2.len]; exact hl.1
    refine ⟨by rw [hlv]; exact hl.2, fun a na => ⟨a, vs ++ [], rfl, by simpa using hlv, upd_same, fun d H2 nd ne e1' e2 k => ?_⟩⟩
    have nd1 : H1 d = none := by rw [upd_ne ne] at nd; exact nd
    refine ⟨rfl, d, _, e1', e2, nd1, ?_⟩
    have eH : upd (del H2 a) d (.xd (fns.zip (vs ++ [])).reverse) = upd H1 d (.xd (fns.zip vs).reverse) := by
      rw [List.append_nil]
      funext b
      by_cases q : b = d
      · subst q; rw [upd_same, upd_same]
      · rw [upd_ne q, upd_ne q]
        by_cases q2 : b = a
        · subst q2; rw [del_same, na]
        · rw [del_ne q2, k b q2 q, upd_ne q2]
    rw [eH]
    have l : Lay F1 H1 (upd F1 d (.xd (fns.zip vs).reverse)) (upd H1 d (.xd (fns.zip vs).reverse)) := Lay.new r1.1.sub nd1
    exact q1 _ _ σ _ _ l.gr (r1.1.lay l) ⟨C', d, _, rfl, h0, rfl, upd_same, (denF_zip r1.2).gr l.gr⟩
  · exact q1.elim
/-! ### try -/
def unslot (i : Nat) : Out Fl → Out Fl
  | .ok f e => .ok f (e.set i none)
  | _ => .fail
def tryAs (i : Nat) (isx : Nat → Option Bool) (gb : Env → Out Fl) (gs : Exn → Env → Out Fl) (env : Env) : Out Fl := match gb env with
  | .exc x e => (match isx x.c with
    | some true => if i < e.length then unslot i (gs x (e.set i (some (.own (.fz .bad))))) else .fail
    | some false => .exc x e
    | none => .fail)
  | .ok f e => .ok f e
  | .fail => .fail
/-- what the text says of the classes caught -/
def Catches (G : Tx) (cE : Value) (isx : Nat → Option Bool) : Prop := ∀ c b, isx c = some b → ∀ C, G.ct c = some C → PySem.W.exmOne G.K (.ref C) cE = some b
theorem pS_try {N : Ends} {F : Hp} {o : Out Fl} {W2 : WX} {k : Exn → Env → Out Fl} (h : pS G W C N F (match o with
      | .exc x e => k x e
      | .ok f e => .ok f e
      | .fail => .fail)) (hk : ∀ x e cls dd σ' H' F', Gr F F' → Rep G C F' H' σ' e → DenX G F' cls dd x → pS G W C N F' (k x e) → W2 cls dd σ' H') : pS G W2 C N F o := by
  cases o with
  | fail => exact h
  | exc x e => exact fun cls dd σ' H' F' g r dx => hk x e cls dd σ' H' F' g r dx (pS.gr (show pS G W C N F (k x e) from h) g)
  | ok f e => cases f <;> exact h
/-- within a suite whose slot i holds the exception -/
theorem Rep.caught {F H : Hp} {σ : L2.St} {env : Env} {i : Nat} {a : Addr} (r : Rep G C F H σ env) (hp : ∀ w, (i, w) ∉ C.pv) (hi : i < env.length) : ∃ C', C'.pv = (i, V.ref a) :: C.pv ∧ C'.F0 = F ∧ Rep G C' F H (σ.set i (some (.ref a))) (env.set i (some (.own (.fz .bad)))) ∧
    ∀ {F' H' : Hp} {σ' : L2.St} {env' : Env} {u : T} {y : V}, RepV G C' F' H' σ' env' u y → RepV G C F' H' (σ'.set i none) (env'.set i none) u y := by
  have hl : i < σ.length := by obtain ⟨fp, r⟩ := r; rw [r.len]; exact hi
  obtain ⟨C1, p1, f1, r1, _, b2⟩ := r.held
  have r2 : Rep G C1 F H (σ.set i (some (.ref a))) (env.set i (some (.own (.fz .bad)))) := RepV.set (r1.fz (d := .bad) (v := .ref a) (by simp [Den])) (by rw [p1]; exact hp)
  refine ⟨{ C1 with pv := (i, .ref a) :: C1.pv }, by rw [p1], f1, ?_, ?_⟩
  · obtain ⟨fp, r2⟩ := r2
    refine ⟨fp, r2.st, r2.sub, r2.len, r2.own, r2.bok, r2.bor, r2.nd, r2.dj, fun j v hv => ?_, r2.tb⟩
    rcases List.mem_cons.mp hv with e | hv
    · cases e
      rw [List.getElem?_set_self hl]
    · exact r2.pin j v hv
  · intro F' H' σ' env' u y ⟨fp, A, r, o, nd, mi, dj⟩
    refine (b2 (RepV.wipe1 (C := C1) ⟨fp, A, ⟨r.st, r.sub, r.len, r.own, r.bok, r.bor, r.nd, r.dj, fun j v hv => r.pin j v (List.mem_cons_of_mem _ hv), r.tb⟩, o, nd, mi, dj⟩ (by rw [p1]; exact hp)))
theorem pS_caught {N : Ends} {F : Hp} {i : Nat} {C' : DCtx} {o : Out Fl} (back : ∀ {F' H' : Hp} {σ' : L2.St} {env' : Env} {u : T} {y : V}, RepV G C' F' H' σ' env' u y → RepV G C F' H' (σ'.set i none) (env'.set i none) u y)
    (h : pS G W C N F (unslot i o)) : pS G W0 C' { nx := fun σ' H' => N.nx (σ'.set i none) H', rt := N.rt, bk := fun σ' H' => N.bk (σ'.set i none) H', ct := fun σ' H' => N.ct (σ'.set i none) H' } F o := by
  have fz : ∀ {F' H' : Hp} {σ' : L2.St} {env' : Env}, Rep G C' F' H' σ' env' → Rep G C F' H' (σ'.set i none) (env'.set i none) := fun r => (back (r.fz (d := .non) (v := .non) (by simp [Den]))).rep
  cases o with
  | fail => exact h
  | exc x e => exact h.elim
  | ok f e =>
    cases f with
    | nx => exact fun σ' H' F' g r => h _ H' F' g (fz r)
    | bk => exact fun σ' H' F' g r => h _ H' F' g (fz r)
    | ct => exact fun σ' H' F' g r => h _ H' F' g (fz r)
    | rt t => exact fun v σ' H' F' g r => h v _ H' F' g (back r)
theorem ds_tryAs {n : Str} {c : Value} {i : Nat} {body suite : List Stmt} {b₀ : Stmt} {np pos' : Pos} {gb : Env → Out Fl} {gs : Exn → Env → Out Fl} {isx : Nat → Option Bool} (hs : X.stack = X.env :: X.outer) (hf : X.env.frame = some X.env.locals) (hN : X.N.Nodup) (hi : X.N[i]? = some n) (hln : X.env.kindOf n = some .local)
    (hK : X.K = G.K) (hc : Names X x c) (hx : Catches G c isx) (tk : Takes X W) (hp : ∀ w, (i, w) ∉ C.pv)
    (hb : ∀ (W : WX) (pn : List (Addr × Obj)) (xe : Value → Shared → Prop), Takes (X.tr pn xe) W → PassesOwn (model X.prog X.w) X.A X.env xe → DSs (X.tr pn xe) G W C body gb)
    (hsu : ∀ (a : Addr) (oe : Obj) (cls : Value) (d : Option Addr) (pn : List (Addr × Obj)), Zc cls d oe → (∃ vs, oe.data = .fields vs) → ∀ (C' : DCtx) (x : Exn), C'.pv = (i, V.ref a) :: C.pv → DenX G C'.F0 cls d x → DSs (X.suite a ((a, oe) :: pn)) G W0 C' (b₀ :: suite) (gs x)) :
    DS X G W C (.Try body [.ExceptHandler (some (.Name x np)) (some n) (b₀ :: suite) pos'] [] [] pos) (tryAs i isx gb gs) := by
  refine PS_imp (ps_try_as (tb := fun W2 => dS G W2 C gb) (ts := fun a cls d N σ H => ∃ C' x, C'.pv = (i, V.ref a) :: C.pv ∧ DenX G C'.F0 cls d x ∧ dS G W0 C' (gs x) N σ H) (i := i) hs hf hN hi hln hc tk hb
    (fun a oe cls d pn hz hv => ⟨fun pins s σ H N I ⟨C', x, e1, e2, w⟩ => (hsu a oe cls d pn hz hv C' x e1 e2).run pins s σ H N I w⟩)) fun N σ H ⟨F, env, rp, q⟩ => ⟨F, env, rp, pS_try (W := W) q fun x e cls dd σ' H' F' g r dx q1 => ?_⟩
  obtain ⟨C1, d1, vs, e1, e2, e3, e4, e5⟩ := id dx
  cases eb : isx x.c with
  | none => rw [eb] at q1; exact q1.elim
  | some b =>
    rw [eb] at q1
    refine ⟨b, by rw [hK, e1]; exact hx _ _ eb _ e2, fun hb => ?_, fun hb => ?_⟩
    · subst hb
      simp only at q1
      split at q1
      · rename_i hl
        intro a na
        obtain ⟨C', p', f', r', back⟩ := r.caught (a := a) hp hl
        exact ⟨C', x, p', by rw [f']; exact dx, F', _, r', pS_caught back q1⟩
      · exact q1.elim
    · subst hb
      exact q1 cls dd σ' H' F' (.refl F') r dx
/-- except x: without a name -/
def noexc : Out Fl → Out Fl
  | .exc _ _ => .fail
  | o => o
def tryO (isx : Nat → Option Bool) (gb : Env → Out Fl) (gs : Env → Out Fl) (env : Env) : Out Fl := match gb env with
  | .exc x e => (match isx x.c with
    | some true => noexc (gs e)
    | some false => .exc x e
    | none => .fail)
  | .ok f e => .ok f e
  | .fail => .fail
theorem ds_tryO {c : Value} {body suite : List Stmt} {b₀ : Stmt} {np pos' : Pos} {gb : Env → Out Fl} {gs : Env → Out Fl} {isx : Nat → Option Bool} (hs : X.stack = X.env :: X.outer) (hf : X.env.frame = some X.env.locals)
    (hK : X.K = G.K) (hc : Names X x c) (hx : Catches G c isx) (tk : Takes X W)
    (hb : ∀ (W : WX) (pn : List (Addr × Obj)) (xe : Value → Shared → Prop), Takes (X.tr pn xe) W → PassesOwn (model X.prog X.w) X.A X.env xe → DSs (X.tr pn xe) G W C body gb)
    (hsu : ∀ (a : Addr) (oe : Obj) (pn : List (Addr × Obj)), DSs (X.suite a ((a, oe) :: pn)) G W0 C (b₀ :: suite) gs) :
    DS X G W C (.Try body [.ExceptHandler (some (.Name x np)) none (b₀ :: suite) pos'] [] [] pos) (tryO isx gb gs) := by
  refine PS_imp (ps_try_only (tb := fun W2 => dS G W2 C gb) (ts := fun a cls d => dS G W0 C gs) hs hf hc tk hb (fun a oe cls d pn hz hv => hsu a oe pn)) fun N σ H ⟨F, env, rp, q⟩ => ⟨F, env, rp, pS_try (W := W) q fun x e cls dd σ' H' F' g r dx q1 => ?_⟩
  obtain ⟨C1, d1, vs, e1, e2, e3, e4, e5⟩ := id dx
  cases eb : isx x.c with
  | none => rw [eb] at q1; exact q1.elim
  | some b =>
    rw [eb] at q1
    refine ⟨b, by rw [hK, e1]; exact hx _ _ eb _ e2, fun hb => ?_, fun hb => ?_⟩
    · subst hb
      intro a na
      refine ⟨F', e, r, ?_⟩
      have q1 : pS G W C N F' (noexc (gs e)) := q1
      cases eg : gs e with
      | fail => rw [eg] at q1; exact q1
      | exc x e => rw [eg] at q1; exact q1.elim
      | ok f e => rw [eg] at q1; cases f <;> exact q1
    · subst hb
      exact q1 cls dd σ' H' F' (.refl F') r dx
/-- a field of the caught exception -/
theorem de_xf {i : Nat} {a : Addr} {oe : Obj} {cls : Value} {d : Option Addr} {pn : List (Addr × Obj)} {n : Str} {p : Pos} {pv0 : List (Nat × V)} {cx : List Nat} {f : Str} (xe : Exn) (hpv : C.pv = (i, V.ref a) :: pv0) (dx : DenX G C.F0 cls d xe) (hK : X.K = G.K) (hx : ∀ c ∈ cx, ∀ C1, G.ct c = some C1 → XfC G.K C1 ∧ PySem.W.findIn G.K (.ref C1) f = some none)
    (hz : Zc cls d oe) (hf : ∃ vs, oe.data = .fields vs) (hN : X.N[i]? = some n := by rfl) (hv : Vis X.env.scope n := by first | exact Or.inl rfl | exact Or.inr (Or.inl rfl) | exact Or.inr (Or.inr rfl)) (hd : (n == ("__debug__" : Str)) = false := by decide)
    (hcd : (n == ("__classdict__" : Str)) = false := by decide) (hb : attributeBase (.Name n p) f X.env (eval (.Name n p) X.env) = eval (.Name n p) X.env := by rfl) :
    DE (X.suite a ((a, oe) :: pn)) G W C (.Attribute (.Name n p) f pos) (fun env => if xe.c ∈ cx then (match xe.fs.lookup f with
      | some dd => .ok dd env
      | none => .fail) else .fail) := by
  by_cases hcx : xe.c ∈ cx
  · obtain ⟨C1, d1, vs, e1, e2, e3, e4, e5⟩ := dx
    obtain ⟨k1, k2⟩ := hx _ hcx C1 e2
    rw [← hK] at k1 k2
    refine PE_imp (pe_xf (te := tVar i) k1 k2 hz hf (pe_var (X := X.suite a ((a, oe) :: pn)) hN hv hd hcd) hb) fun σ H Q ⟨F, env, rp, q⟩ => ?_
    replace q : pst (RlE G C σ) (exW G W C σ) Q F (if xe.c ∈ cx then (match xe.fs.lookup f with
      | some dd => Out.ok dd env
      | none => .fail) else .fail) := q
    rw [if_pos hcx] at q
    cases el : xe.fs.lookup f with
    | none => rw [el] at q; exact q.elim
    | some dd =>
      rw [el] at q
      obtain ⟨u, l1, l2⟩ := e5.look el
      obtain ⟨fp, r⟩ := id rp
      refine ⟨.ref a, r.pin i (.ref a) (by rw [hpv]; simp), rfl, e1, d1, vs, u, e3, ?_, l1, q u H F (.refl F) ⟨rp, l2.gr r.st.gr⟩⟩
      exact rp.sub d1 _ (r.st.gr.keep e4 (by rintro (⟨_, h⟩ | ⟨_, h⟩) <;> cases h))
  · refine ⟨fun pins s σ H Q I ⟨F, env, rp, q⟩ => ?_⟩
    replace q : pst (RlE G C σ) (exW G W C σ) Q F (if xe.c ∈ cx then (match xe.fs.lookup f with
      | some dd => Out.ok dd env
      | none => .fail) else .fail) := q
    rw [if_neg hcx] at q
    exact q.elim
end
end DL

end
section
namespace DL
open PySem PySem.Spec PyProof.Rows L2
variable [TB]
/-! ### a slot read and frozen -/
def rdz (i : Nat) (env : Env) : Out D := match env[i]? with
  | some (some (Ent.own (.fz d))) => .ok d env
  | some (some (Ent.own t)) => .ok (er t) (env.set i (some (Ent.own (.fz (er t)))))
  | some (some (Ent.bor (.fz d))) => .ok d env
  | _ => .fail
section
variable {X : Cx} {G : Tx} {W : WX} {C : DCtx} {a b e : Expr} {es : List Expr} {ga : Env → Out D} {tA : Env → Out Bool} {pos : Pos} {n k i : Nat} {sem : List T → FO} {gs : Env → Out (List D)}
theorem Rep.lt {F H : Hp} {σ : L2.St} {env : Env} {i : Nat} (r : Rep G C F H σ env) (h : i < env.length) : i < σ.length := by
  obtain ⟨fp, r⟩ := r
  rw [r.len]; exact h
theorem de_vz (i : Nat) {x : Str} {pos : Pos} (hN : X.N[i]? = some x := by rfl) (hv : Vis X.env.scope x := by first | exact Or.inl rfl | exact Or.inr (Or.inl rfl) | exact Or.inr (Or.inr rfl)) (hd : (x == ("__debug__" : Str)) = false := by decide)
    (hcd : (x == ("__classdict__" : Str)) = false := by decide) : DE X G W C (.Name x pos) (rdz i) := PE_imp (pe_var hN hv hd hcd) fun σ H Q ⟨F, env, r, h⟩ => by
  unfold rdz at h
  split at h
  · rename_i d e
    obtain ⟨v, B, h1, h2⟩ := r.at_ (.inl e)
    simp only [Own] at h2
    exact ⟨v, h1, h v H F (.refl F) ⟨r, h2.2⟩⟩
  · rename_i t n e
    obtain ⟨F1, g1, r1⟩ := Rep.frz r e
    have hl : i < env.length := (List.getElem?_eq_some_iff.mp e).1
    obtain ⟨v, B, h1, h2⟩ := r1.at_ (.inl (List.getElem?_set_self hl))
    simp only [Own] at h2
    exact ⟨v, h1, h v H F1 g1 ⟨r1, h2.2⟩⟩
  · rename_i d e
    obtain ⟨v, B, h1, h2⟩ := r.at_ (.inr e)
    simp only [Own] at h2
    exact ⟨v, h1, h v H F (.refl F) ⟨r, h2.2⟩⟩
  · exact h.elim
/-! ### looking only, at what is one's own, for a flat answer -/
mutual
def nodic : T → Bool
  | .fz _ => true
  | .lst _ => true
  | .dic _ => false
  | .dit _ => false
  | .ins _ fs => nodicF fs
def nodicF : List (Str × T) → Bool
  | [] => true
  | (_, t) :: r => nodic t && nodicF r
end
def seeE1 : Option Ent → Option Ent
  | some (.own t) => if nodic t = true then some (.own (.fz (er t))) else none
  | some (.bor t) => if nodic t = true then some (.own (.fz (er t))) else none
  | none => none
def seeE (env : Env) : Env := env.map seeE1
def atom : D → Bool
  | .non => true
  | .bl _ => true
  | .int _ => true
  | .str _ => true
  | _ => false
def pk (g : Env → Out D) (env : Env) : Out D := match g (seeE env) with
  | .ok d _ => if atom d = true then .ok d env else .fail
  | _ => .fail
def pkT (g : Env → Out Bool) (env : Env) : Out Bool := match g (seeE env) with
  | .ok d _ => .ok d env
  | _ => .fail
mutual
theorem Own.nolock {F H : Hp} : ∀ {t : T} {v : V} {A : List Addr}, Own G F H t v A → nodic t = true → ∀ a ∈ A, ∀ o, H a = some o → ¬ LockK o
  | .fz d, v, A, h, _, a, ha, o, e => by
    simp only [Own] at h
    rw [h.1] at ha; cases ha
  | .lst ds, v, A, h, _, a, ha, o, e => by
    simp only [Own] at h
    obtain ⟨a', vs, _, rfl, f, h1, l⟩ := h
    rw [List.mem_singleton] at ha; subst ha
    rw [h1] at e; cases e
    rintro (⟨_, h⟩ | ⟨_, h⟩) <;> cases h
  | .dic kvs, v, A, h, z, a, ha, o, e => by simp [nodic] at z
  | .dit kvs, v, A, h, z, a, ha, o, e => by simp [nodic] at z
  | .ins c fs, v, A, h, z, a, ha, o, e => by
    simp only [Own] at h
    simp only [nodic] at z
    obtain ⟨a', C, dx, vs, Bs, _, rfl, hc, f, h1, l⟩ := h
    rcases List.mem_cons.mp ha with rfl | ha
    · rw [h1] at e; cases e
      rintro (⟨_, h⟩ | ⟨_, h⟩) <;> cases h
    · exact OwnF.nolock l z a ha o e
theorem OwnF.nolock {F H : Hp} : ∀ {fs : List (Str × T)} {vs : List (Str × V)} {A : List Addr}, OwnF G F H fs vs A → nodicF fs = true → ∀ a ∈ A, ∀ o, H a = some o → ¬ LockK o
  | [], vs, A, h, _, a, ha, o, e => by
    simp only [OwnF] at h
    rw [h.2] at ha; cases ha
  | (n, t) :: r, vs, A, h, z, a, ha, o, e => by
    simp only [OwnF] at h
    simp only [nodicF, Bool.and_eq_true] at z
    obtain ⟨v, q, A1, A2, _, rfl, h1, h2⟩ := h
    rcases List.mem_append.mp ha with ha | ha
    · exact Own.nolock h1 z.1 a ha o e
    · exact OwnF.nolock h2 z.2 a ha o e
end
mutual
theorem Own.noco {F H : Hp} : ∀ {t : T} {v : V} {A : List Addr}, Own G F H t v A → ∀ a ∈ A, ∀ g, H a ≠ some (.ext g)
  | .fz d, v, A, h, a, ha, ps, z => by
    simp only [Own] at h
    rw [h.1] at ha; cases ha
  | .lst ds, v, A, h, a, ha, ps, z => by
    simp only [Own] at h
    obtain ⟨a', vs, e, rfl, f, h1, l⟩ := h
    rw [List.mem_singleton] at ha; subst ha
    rw [h1] at z; cases z
  | .dic kvs, v, A, h, a, ha, ps, z => by
    simp only [Own] at h
    obtain ⟨a', ks, e, rfl, f, h1, l⟩ := h
    rw [List.mem_singleton] at ha; subst ha
    rw [h1] at z; cases z
  | .dit kvs, v, A, h, a, ha, ps, z => by
    simp only [Own] at h
    obtain ⟨a', ks, e, rfl, f, h1, l⟩ := h
    rw [List.mem_singleton] at ha; subst ha
    rw [h1] at z; cases z
  | .ins c fs, v, A, h, a, ha, ps, z => by
    simp only [Own] at h
    obtain ⟨a', C, dx, vs, Bs, e, rfl, hc, f, h1, l⟩ := h
    rcases List.mem_cons.mp ha with rfl | ha
    · rw [h1] at z; cases z
    · exact OwnF.noco l a ha ps z
theorem OwnF.noco {F H : Hp} : ∀ {fs : List (Str × T)} {vs : List (Str × V)} {A : List Addr}, OwnF G F H fs vs A → ∀ a ∈ A, ∀ g, H a ≠ some (.ext g)
  | [], vs, A, h, a, ha, ps, z => by
    simp only [OwnF] at h
    rw [h.2] at ha; cases ha
  | (n, t) :: r, vs, A, h, a, ha, ps, z => by
    simp only [OwnF] at h
    obtain ⟨v, q, A1, A2, e, rfl, h1, h2⟩ := h
    rcases List.mem_append.mp ha with ha | ha
    · exact Own.noco h1 a ha ps z
    · exact OwnF.noco h2 a ha ps z
end
open Classical in
theorem Rep.see {F H : Hp} {σ : L2.St} {env : Env} (r : Rep G C F H σ env) : ∃ C' F', C'.pv = [] ∧ Rep G C' F' H σ (seeE env) ∧ ∀ {F2 H2 : Hp} {σ' : L2.St} {e' : Env}, Rep G C' F2 H2 σ' e' → ∃ F3, Lay F H F3 H2 := by
  let p : Addr → Prop := fun a => ∃ (i : Nat) (t : T) (v : V) (B : List Addr), (env[i]? = some (some (Ent.own t)) ∨ env[i]? = some (some (Ent.bor t))) ∧ nodic t = true ∧ Own G F H t v B ∧ a ∈ B
  let F' : Hp := fun a => if p a then H a else F a
  have pn : ∀ a, p a → F a = none ∧ ∃ o, H a = some o ∧ ¬ LockK o := fun a ⟨i, t, v, B, _, nt, ow, ha⟩ => by
    obtain ⟨f, o, e⟩ := ow.mem a ha
    exact ⟨f, o, e, ow.nolock nt a ha o e⟩
  have pt : ∀ a, p a → ∀ ps, H a ≠ some (.tbl ps) := fun a ⟨i, t, v, B, _, nt, ow, ha⟩ => ow.notb a ha
  have pf : ∀ {a o}, F a = some o → F' a = some o := fun {a o} e => by
    have : ¬ p a := fun z => by rw [(pn a z).1] at e; cases e
    show (if p a then H a else F a) = _
    rw [if_neg this]; exact e
  have pp : ∀ {a}, p a → F' a = H a := fun {a} h => if_pos h
  have gF : Gr F F' := fun a o e => ⟨o, pf e, .refl o⟩
  have nF : ∀ {a}, F a = none → ¬ p a → F' a = none := fun {a} e n => by
    show (if p a then H a else F a) = none
    rw [if_neg n]; exact e
  have sub : Sub F' H := fun a o e => by
    have e : (if p a then H a else F a) = some o := e
    split at e
    · exact e
    · exact r.sub a o e
  have look : ∀ {j : Nat} {x : Ent}, (seeE env)[j]? = some (some x) → ∃ t, x = .own (.fz (er t)) ∧ nodic t = true ∧ (env[j]? = some (some (Ent.own t)) ∨ env[j]? = some (some (Ent.bor t))) := fun {j x} e => by
    unfold seeE at e
    rw [List.getElem?_map] at e
    cases q : env[j]? with
    | none => rw [q] at e; cases e
    | some o =>
      rw [q] at e
      simp only [Option.map_some, Option.some.injEq] at e
      cases o with
      | none => cases e
      | some y =>
        cases y with
        | own t =>
          simp only [seeE1] at e
          split at e
          · cases e; rename_i nt; exact ⟨t, rfl, nt, .inl rfl⟩
          · cases e
        | bor t =>
          simp only [seeE1] at e
          split at e
          · cases e; rename_i nt; exact ⟨t, rfl, nt, .inr rfl⟩
          · cases e
  refine ⟨⟨F', H, [], [], fun _ => none⟩, F', rfl, ⟨fun _ => [], .refl, sub, ?_, fun j t e => ?_, fun j v t e => (by cases e), fun j t e => ?_, fun j t e => ⟨List.nodup_nil, (fun _ z => nomatch z)⟩, (fun j k tj tk _ _ _ a z => nomatch z), fun j w h => (by cases h), fun q hq => (r.tb q hq).to gF fun ps e1 e2 => ⟨nF e1 fun z => pt _ z ps e2, e2⟩⟩, fun {F2 H2 σ' e'} ⟨fp2, r2⟩ => ?_⟩
  · obtain ⟨fp, r⟩ := r
    unfold seeE
    rw [List.length_map]; exact r.len
  · obtain ⟨t0, ex, nt, he⟩ := look e
    cases ex
    obtain ⟨v, B, h1, h2⟩ := r.at_ he
    refine ⟨v, h1, ?_⟩
    simp only [Own]
    exact ⟨trivial, h2.den (fun a o e => ⟨o, pf e, .refl o⟩) fun a ha => pp ⟨j, t0, v, B, he, nt, h2, ha⟩⟩
  · obtain ⟨t0, ex, _, _⟩ := look e
    cases ex
  · have st : Step [] F' H F2 H2 := r2.st
    refine ⟨fun b => if F b = none ∧ H b ≠ none then none else F2 b, ⟨⟨fun a o e => ?_, fun b o e => ?_, fun b o e _ => ?_, fun P q t => ?_⟩, fun b o e => ?_⟩⟩
    · obtain ⟨o', h', w⟩ := st.gr a o (pf e)
      refine ⟨o', ?_, w⟩
      show (if F a = none ∧ H a ≠ none then none else F2 a) = _
      rw [if_neg (fun z => by rw [e] at z; cases z.1)]
      exact h'
    · by_cases q : F b = none ∧ H b ≠ none
      · rw [if_pos q] at e; cases e
      · cases e0 : F b with
        | some u => exact .inl ⟨u, rfl⟩
        | none =>
          cases e1 : H b with
          | none => exact .inr (.inr (.inl rfl))
          | some u => exact absurd ⟨e0, by rw [e1]; exact fun z => nomatch z⟩ q
    · rcases st.keep b o e (fun z => nomatch z) with q | ⟨⟨o0, q0⟩, o', q, w⟩ | q
      · exact .inl q
      · cases e0 : F b with
        | some u => exact .inr (.inl ⟨⟨u, rfl⟩, o', q, w⟩)
        | none =>
          by_cases hp : p b
          · obtain ⟨_, o1, e1, nl⟩ := pn b hp
            rw [e] at e1; cases e1
            rw [w.eq nl] at q
            exact .inl q
          · have q0 : (if p b then H b else F b) = some o0 := q0
            rw [if_neg hp, e0] at q0; cases q0
      · exact .inr (.inr q)
    · have t0 := t
      obtain ⟨f, ps, e1, _⟩ := t
      have t1 : TabF F' H P.1 P.2 := t0.to gF fun ps e1 e2 => ⟨nF e1 fun z => pt _ z ps e2, e2⟩
      obtain ⟨f2, ps2, e2, ht2, k2⟩ := st.tab P q t1
      refine ⟨?_, ps2, e2, ht2, fun pos cv hc => ?_⟩
      · show (if F P.1 = none ∧ H P.1 ≠ none then none else F2 P.1) = _
        rw [if_pos ⟨f, by rw [e1]; exact fun z => nomatch z⟩]
      · obtain ⟨c, ec, e3⟩ := k2 pos cv hc
        refine ⟨c, ec, ?_⟩
        show (if F c = none ∧ H c ≠ none then none else F2 c) = _
        by_cases hq : F c = none ∧ H c ≠ none
        · exfalso
          obtain ⟨q1, q2⟩ := hq
          by_cases hp : p c
          · obtain ⟨i, t, v, B, hi, nt, ow, hc⟩ := hp
            obtain ⟨_, o1, e1', nl⟩ := pn c ⟨i, t, v, B, hi, nt, ow, hc⟩
            have e4 : F' c = some o1 := by rw [pp ⟨i, t, v, B, hi, nt, ow, hc⟩]; exact e1'
            obtain ⟨o2, e5, w⟩ := st.gr c o1 e4
            rw [w.eq nl, e3] at e5
            cases e5
            exact ow.noco c hc _ e1'
          · rcases st.new c _ e3 with ⟨o0, z⟩ | z | z | ⟨xs, z⟩
            · rw [nF q1 hp] at z; cases z
            · cases z
            · exact q2 z
            · rcases st.keep c _ z (fun z => nomatch z) with y | ⟨⟨_, y⟩, _⟩ | ⟨_, _, y, _⟩
              · rw [r2.sub c _ e3] at y; cases y
              · rw [nF q1 hp] at y; cases y
              · cases y
        · rw [if_neg hq]; exact e3
    · by_cases q : F b = none ∧ H b ≠ none
      · rw [if_pos q] at e; cases e
      · rw [if_neg q] at e
        exact r2.sub b o e
theorem den_atom {F F' : Hp} {d : D} {v : V} (h : Den G F d v) (a : atom d = true) : Den G F' d v := by
  cases d <;> first | (simp [atom] at a; done) | (simp only [Den] at h ⊢; exact h)
theorem de_peek (h : ∀ C', C'.pv = [] → DE X G W C' e ga) : DE X G W C e (pk ga) := by
  refine ⟨fun pins s σ H Q I ⟨F, env, r, q⟩ => ?_⟩
  obtain ⟨C', F', pv, r', back⟩ := r.see
  refine (h C' pv).run pins s σ H Q I ⟨F', _, r', ?_⟩
  unfold pk at q
  cases eg : ga (seeE env) with
  | fail => rw [eg] at q; exact q
  | exc x e => rw [eg] at q; exact q.elim
  | ok d e =>
    rw [eg] at q
    simp only at q
    intro v H2 F2 g ⟨r2, dv⟩
    split at q
    · rename_i ha
      obtain ⟨F3, l⟩ := back r2
      exact q v H2 F3 l.gr ⟨r.lay l, den_atom dv ha⟩
    · exact q.elim
theorem dt_peek (h : ∀ C', C'.pv = [] → DT X G W C' e tA) : DT X G W C e (pkT tA) := by
  refine ⟨fun pins s σ H Q I ⟨F, env, r, q⟩ => ?_⟩
  obtain ⟨C', F', pv, r', back⟩ := r.see
  refine (h C' pv).run pins s σ H Q I ⟨F', _, r', ?_⟩
  unfold pkT at q
  cases eg : tA (seeE env) with
  | fail => rw [eg] at q; exact q
  | exc x e => rw [eg] at q; exact q.elim
  | ok d e =>
    rw [eg] at q
    intro v H2 F2 g ⟨r2, dv⟩
    obtain ⟨F3, l⟩ := back r2
    exact q v H2 F3 l.gr ⟨r.lay l, dv⟩
/-! ### a call whose first argument is a slot of one's own, the others evaluated as they are -/
def callIO2 (n : Nat) (sem : List T → FO) (i : Nat) (gs : Env → Out (List D)) (env : Env) : Out T :=
  match rdo i [] env with
  | none => .fail
  | some _ => (gs env).bind fun ds e => match rdo i [] e with
    | none => .fail
    | some t => afterIO n sem i [] t e ds
theorem do_callio2 {x y : Str} {p0 : Pos} (tk : Takes X W) (hK : X.K = G.K) {q : Pos} (h : Has X.prog X.w G X.mg X.base x k n sem) (hr : Room k X.A) (hg : Gl X x) (hN : X.N[i]? = some y) (hv : Vis X.env.scope y) (ha : DA X G W C es gs) (hd : (y == ("__debug__" : Str)) = false := by decide)
    (hcd : (y == ("__classdict__" : Str)) = false := by decide) (hdb : (x == ("__debug__" : Str)) = false := by decide)
    (he : starEach (.Name y p0 :: es) X.env = (false, eval (.Name y p0) X.env) :: starEach es X.env := by rfl) (hpl : (backTo pos (starEach es X.env)).any (·.1) = false := by rfl) : DO X G W C (.Call (.Name x q) (.Name y p0 :: es) [] pos) (callIO2 n sem i gs) := by
  obtain ⟨f, fd, ps, h1, h2, h3, h4⟩ := h.ex
  rw [← hK] at h2 h3 h4
  refine PE_imp (pe_callS (E := WE W) h3 hr hg h1 h2 h4 (fun σ => passAt tk σ) (pa_cons (pe_var hN hv hd hcd) ha he) hdb he hpl) fun σ H Q ⟨F, env, r, q⟩ => ?_
  replace q : pst (RlO G C σ) (exW G W C σ) Q F (callIO2 n sem i gs env) := q
  unfold callIO2 at q
  cases e0 : rdo i [] env with
  | none => rw [e0] at q; exact q.elim
  | some t0 =>
    rw [e0] at q
    have ok : POk G [] := fun _ z => nomatch z
    obtain ⟨v, w, B, a1, a2, _⟩ := r.own_at ok e0
    obtain rfl : w = v := a2
    refine ⟨w, a1, F, env, r, pst_bind q fun ds e1 vs H1 F1 g1 r1 q1 => ?_⟩
    cases e2 : rdo i [] e1 with
    | none => rw [e2] at q1; exact q1.elim
    | some t =>
      rw [e2] at q1
      obtain ⟨v', w', k1, k2, k3⟩ := io_run r1.1 ok e2 r1.2 q1
      rw [a1] at k1; cases k1
      obtain rfl : w' = w := k2
      exact k3
end
end DL

end
section
namespace DL
open PySem PySem.Spec PyProof.Rows L2
variable [TB]
/-! ### results of any kind -/
def Res (G : Tx) (F H : Hp) (t : T) (Q : VK) : Prop := match t with
  | .fz d => ∀ v F' H', Lay F H F' H' → Den G F' d v → Q v H'
  | t => NewO G F H t Q
def OpT (G : Tx) (r : R2) (f : D → D → Option T) : Prop := ∀ F H da db t x y Q, SubT G F H → Den G F da x → Den G F db y → f da db = some t → Res G F H t Q → r x y H Q
def CallT (G : Tx) (r : List V → Hp → VK → Prop) (f : List D → Option T) : Prop := ∀ F H ds t xs Q, SubT G F H → DenL G F ds xs → f ds = some t → Res G F H t Q → r xs H Q
def BinS (X : Cx) (G : Tx) (op : Operator) (f : D → D → Option T) : Prop := ∃ r, OpR X (binaryOp op) r ∧ OpT G r f
def CmpS (X : Cx) (G : Tx) (op : CmpOp) (f : D → D → Option D) : Prop := ∃ r, OpR X (compareOp op) r ∧ OpD G r f
def IxS (X : Cx) (G : Tx) (f : D → D → Option D) : Prop := ∃ r, IxR X r ∧ OpD G r f
def CallS (X : Cx) (G : Tx) (u : Value) (f : List D → Option T) : Prop := ∃ r, CallR X u r ∧ CallT G r f
theorem OpR.or' {X : Cx} {g : Value → Value → Sem Value} {r r' : R2} (h : OpR X g r) (h' : OpR X g r') : OpR X g (fun x y H Q => r x y H Q ∨ r' x y H Q) := fun pins s σ H x y v u Q I rx ry q => by
  rcases q with q | q
  · exact h pins s σ H x y v u Q I rx ry q
  · exact h' pins s σ H x y v u Q I rx ry q
theorem CallR.or' {X : Cx} {f : Value} {r r' : List V → Hp → VK → Prop} (h : CallR X f r) (h' : CallR X f r') : CallR X f (fun xs H Q => r xs H Q ∨ r' xs H Q) := fun pins s σ H xs us Q I rx q => by
  rcases q with q | q
  · exact h pins s σ H xs us Q I rx q
  · exact h' pins s σ H xs us Q I rx q
def orF {α β γ : Type} (f g : α → β → Option γ) (a : α) (b : β) : Option γ := match f a b with
  | some c => some c
  | none => g a b
def orF1 {α γ : Type} (f g : α → Option γ) (a : α) : Option γ := match f a with
  | some c => some c
  | none => g a
theorem OpT.or {G : Tx} {r r' : R2} {f f' : D → D → Option T} (h : OpT G r f) (h' : OpT G r' f') : OpT G (fun x y H Q => r x y H Q ∨ r' x y H Q) (orF f f') := fun F H da db t x y Q s dx dy e res => by
  unfold orF at e
  split at e
  · rename_i c e1; cases e; exact .inl (h F H da db _ x y Q s dx dy e1 res)
  · exact .inr (h' F H da db t x y Q s dx dy e res)
theorem OpD.or {G : Tx} {r r' : R2} {f f' : D → D → Option D} (h : OpD G r f) (h' : OpD G r' f') : OpD G (fun x y H Q => r x y H Q ∨ r' x y H Q) (orF f f') := fun F H da db t x y Q s dx dy e res => by
  unfold orF at e
  split at e
  · rename_i c e1; cases e; exact .inl (h F H da db _ x y Q s dx dy e1 res)
  · exact .inr (h' F H da db t x y Q s dx dy e res)
theorem CallT.or {G : Tx} {r r' : List V → Hp → VK → Prop} {f f' : List D → Option T} (h : CallT G r f) (h' : CallT G r' f') : CallT G (fun xs H Q => r xs H Q ∨ r' xs H Q) (orF1 f f') := fun F H ds t xs Q s dx e res => by
  unfold orF1 at e
  split at e
  · rename_i c e1; cases e; exact .inl (h F H ds _ xs Q s dx e1 res)
  · exact .inr (h' F H ds t xs Q s dx e res)
section
variable {X : Cx} {G : Tx} {W : WX} {C : DCtx} {a b e : Expr} {es : List Expr} {ga gb : Env → Out D} {gs : Env → Out (List D)} {pos : Pos}
theorem BinS.or {op : Operator} {f f' : D → D → Option T} (h : BinS X G op f) (h' : BinS X G op f') : BinS X G op (orF f f') := by
  obtain ⟨r, h1, h2⟩ := h
  obtain ⟨r', h3, h4⟩ := h'
  exact ⟨_, OpR.or' h1 h3, h2.or h4⟩
theorem CmpS.or {op : CmpOp} {f f' : D → D → Option D} (h : CmpS X G op f) (h' : CmpS X G op f') : CmpS X G op (orF f f') := by
  obtain ⟨r, h1, h2⟩ := h
  obtain ⟨r', h3, h4⟩ := h'
  exact ⟨_, OpR.or' h1 h3, h2.or h4⟩
theorem CallS.or {u : Value} {f f' : List D → Option T} (h : CallS X G u f) (h' : CallS X G u f') : CallS X G u (orF1 f f') := by
  obtain ⟨r, h1, h2⟩ := h
  obtain ⟨r', h3, h4⟩ := h'
  exact ⟨_, CallR.or' h1 h3, h2.or h4⟩
theorem res_of {F H : Hp} {σ : L2.St} {env : Env} {t : T} {Q : VK} (r : Rep G C F H σ env) (h : ∀ v H' F', Gr F F' → RepV G C F' H' σ env t v → Q v H') : Res G F H t Q := by
  cases t with
  | fz d => exact fun v F' H' l dv => h v H' F' l.gr ((r.lay l).fz dv)
  | lst ds => exact RepV.new (F0 := F) r h
  | dic ds => exact RepV.new (F0 := F) r h
  | dit ds => exact RepV.new (F0 := F) r h
  | ins c ds => exact RepV.new (F0 := F) r h
theorem do_bin {op : Operator} {f : D → D → Option T} (ho : BinS X G op f) (ha : DE X G W C a ga) (hb : DE X G W C b gb) : DO X G W C (.BinOp a op b pos) (fun env => (ga env).bind fun x e => (gb e).bind fun y e => lft (f x y) e) := by
  obtain ⟨r, ho, hd⟩ := ho
  exact PE_imp (pe_op ho ha hb) fun σ H Q ⟨F, env, rp, h⟩ => ⟨F, env, rp, pst_bind h fun da e1 x H1 F1 g1 r1 h1 => ⟨F1, e1, r1.1, pst_bind h1 fun db e2 y H2 F2 g2 r2 h2 => by
    cases e : f da db with
    | none => rw [e] at h2; exact h2.elim
    | some d =>
      rw [e] at h2
      exact hd F2 H2 da db d x y Q r2.1.subT (r1.2.gr g2) r2.2 e (res_of r2.1 h2)⟩⟩
theorem de_cmpS {op : CmpOp} {f : D → D → Option D} (ho : CmpS X G op f) (ha : DE X G W C a ga) (hb : DE X G W C b gb) (hm : behindInMarks op b = false := by first | exact nobehind _ (by decide) (by decide) | rfl) :
    DE X G W C (.Compare a [op] [b] pos) (fun env => (ga env).bind fun x e => (gb e).bind fun y e => lft (f x y) e) := by
  obtain ⟨r, ho, hd⟩ := ho
  exact de_cmp ho hd ha hb hm
theorem dt_cmpS {op : CmpOp} {f : D → D → Option D} (ho : CmpS X G op f) (ha : DE X G W C a ga) (hb : DE X G W C b gb) (hm : behindInMarks op b = false := by first | exact nobehind _ (by decide) (by decide) | rfl) :
    DT X G W C (.Compare a [op] [b] pos) (fun env => (ga env).bind fun x e => (gb e).bind fun y e => lft ((f x y).bind asB) e) := by
  obtain ⟨r, ho, hd⟩ := ho
  exact dt_cmp ho hd ha hb hm
theorem de_ixS {f : D → D → Option D} (ho : IxS X G f) (ha : DE X G W C a ga) (hb : DE X G W C b gb) (hs : PlainIx b := by exact fun _ _ => rfl) : DE X G W C (.Subscript a b pos) (fun env => (ga env).bind fun x e => (gb e).bind fun y e => lft (f x y) e) := by
  obtain ⟨r, ho, hd⟩ := ho
  exact PE_imp (pe_ix ho ha hb hs) fun σ H Q ⟨F, env, rp, h⟩ => ⟨F, env, rp, pst_bind h fun da e1 x H1 F1 g1 r1 h1 => ⟨F1, e1, r1.1, pst_bind h1 fun db e2 y H2 F2 g2 r2 h2 => by
    cases e : f da db with
    | none => rw [e] at h2; exact h2.elim
    | some d =>
      rw [e] at h2
      exact hd F2 H2 da db d x y Q r2.1.subT (r1.2.gr g2) r2.2 e fun v F' H' l dv => h2 v H' F' l.gr ⟨r2.1.lay l, dv⟩⟩⟩
theorem do_callS {x : Str} {p : Pos} {u : Value} {f : List D → Option T} (hc : CallS X G u f) (hg : Gl X x) (hm : X.mg x = none) (hv : bootBuiltins x = some u) (hu : (∃ id, u = .builtin id) ∨ ∃ ty, u = .type ty) (ha : DA X G W C (e :: es) gs) (hn : x ≠ "__name__" := by decide) (hdb : (x == ("__debug__" : Str)) = false := by decide)
    (he : starEach (e :: es) X.env = (false, eval e X.env) :: starEach es X.env := by rfl) (hpl : (backTo pos (starEach es X.env)).any (·.1) = false := by rfl) : DO X G W C (.Call (.Name x p) (e :: es) [] pos) (fun env => (gs env).bind fun ds e => lft (f ds) e) := by
  obtain ⟨r, hc, hd⟩ := hc
  have fin : ∀ (σ : L2.St) (H : Hp) (Q : VK), dO G W C (fun env => (gs env).bind fun ds e => lft (f ds) e) σ H Q → dA G W C gs σ H (fun vs H1 => r vs H1 Q) := fun σ H Q ⟨F, env, rp, h⟩ => ⟨F, env, rp, pst_bind h fun ds e1 xs H1 F1 g1 r1 h1 => by
    cases e : f ds with
    | none => rw [e] at h1; exact h1.elim
    | some d =>
      rw [e] at h1
      exact hd F1 H1 ds d xs Q r1.1.subT r1.2 e (res_of r1.1 h1)⟩
  rcases hu with ⟨id, rfl⟩ | ⟨ty, rfl⟩
  · exact PE_imp (pe_callB hc hg hm hv ha hn hdb he hpl) fin
  · exact PE_imp (pe_callTy hc hg hm hv ha hn hdb he hpl) fin
/-! ### data as the library's data -/
mutual
def pyD : D → Option PyData
  | .non => some .none
  | .bl b => some (.bool b)
  | .int i => some (.int i)
  | .str x => some (.str x)
  | .tup ds => (pyDs ds).map .tuple
  | .kt ds => (pyDs ds).map .tuple
  | .lst ds => (pyDs ds).map .list
  | .scr ns => some (.list (ns.map .int))
  | _ => none
def pyDs : List D → Option (List PyData)
  | [] => some []
  | d :: ds => match pyD d, pyDs ds with
    | some x, some xs => some (x :: xs)
    | _, _ => none
end
theorem dpAll_ints {K : PySem.W.Frag} {H : Hp} : ∀ (ns : List Int), DpAll K H (ns.map V.int) (ns.map PyData.int)
  | [] => .nil
  | n :: ns => .cons (.int n) (dpAll_ints ns)
theorem sub_rd {F H : Hp} (s : Sub F H) {a : Addr} {o : HO} (h : Rd F a o) : Rd H a o := by
  rcases h with h | ⟨ob, h⟩
  · exact .inl (s a o h)
  · exact .inr ⟨ob, s a _ h⟩
theorem sub_sqT {K : PySem.W.Frag} {F H : Hp} (s : Sub F H) {a : Addr} {vs : List V} (h : SqT K F a vs) : SqT K H a vs := by
  rcases h with h | h
  · exact .inl (sub_rd s h)
  · exact .inr h
theorem sub_sqL {K : PySem.W.Frag} {F H : Hp} (s : Sub F H) {a : Addr} {vs : List V} (h : SqL K F a vs) : SqL K H a vs := by
  rcases h with h | h
  · exact .inl (sub_rd s h)
  · exact .inr h
mutual
theorem Den.dp {F H : Hp} (s : Sub F H) : ∀ {d : D} {v : V} {p : PyData}, Den G F d v → pyD d = some p → Dp G.K H v p
  | .non, v, p, h, e => by simp only [Den] at h; simp only [pyD, Option.some.injEq] at e; subst h; subst e; exact .non
  | .bl b, v, p, h, e => by simp only [Den] at h; simp only [pyD, Option.some.injEq] at e; subst h; subst e; exact .bl b
  | .int b, v, p, h, e => by simp only [Den] at h; simp only [pyD, Option.some.injEq] at e; subst h; subst e; exact .int b
  | .str b, v, p, h, e => by simp only [Den] at h; simp only [pyD, Option.some.injEq] at e; subst h; subst e; exact .str b
  | .tup ds, v, p, h, e => by
    simp only [Den] at h
    obtain ⟨a, vs, rfl, f, l⟩ := h
    simp only [pyD] at e
    cases e1 : pyDs ds with
    | none => rw [e1] at e; cases e
    | some xs => rw [e1] at e; cases e; exact .tup (SqT.of (s a _ f)) (DenL.dp s l e1)
  | .kt ds, v, p, h, e => by
    simp only [Den] at h
    obtain ⟨a, vs, rfl, f, l⟩ := h
    simp only [pyD] at e
    cases e1 : pyDs ds with
    | none => rw [e1] at e; cases e
    | some xs => rw [e1] at e; cases e; exact .tup (sub_sqT s f) (DenL.dp s l e1)
  | .lst ds, v, p, h, e => by
    simp only [Den] at h
    obtain ⟨a, vs, rfl, f, l⟩ := h
    simp only [pyD] at e
    cases e1 : pyDs ds with
    | none => rw [e1] at e; cases e
    | some xs => rw [e1] at e; cases e; exact .lst (SqL.of (s a _ f)) (DenL.dp s l e1)
  | .scr ns, v, p, h, e => by
    simp only [Den] at h
    obtain ⟨a, rfl, f⟩ := h
    simp only [pyD, Option.some.injEq] at e; subst e
    exact .lst (sub_sqL s f) (dpAll_ints ns)
  | .dic _, v, p, h, e => by simp [pyD] at e
  | .dit _, v, p, h, e => by simp [pyD] at e
  | .ins _ _, v, p, h, e => by simp [pyD] at e
  | .lam _ _, v, p, h, e => by simp [pyD] at e
  | .bad, v, p, h, e => by simp [pyD] at e
theorem DenL.dp {F H : Hp} (s : Sub F H) : ∀ {ds : List D} {vs : List V} {ps : List PyData}, DenL G F ds vs → pyDs ds = some ps → DpAll G.K H vs ps
  | [], vs, ps, h, e => by simp only [DenL] at h; simp only [pyDs, Option.some.injEq] at e; subst h; subst e; exact .nil
  | d :: ds, vs, ps, h, e => by
    simp only [DenL] at h
    obtain ⟨v, r, rfl, h1, h2⟩ := h
    simp only [pyDs] at e
    cases e1 : pyD d with
    | none => rw [e1] at e; cases e
    | some x =>
      cases e2 : pyDs ds with
      | none => rw [e1, e2] at e; cases e
      | some xs => rw [e1, e2] at e; cases e; exact .cons (Den.dp s h1 e1) (DenL.dp s h2 e2)
end
def eqf (a b : D) : Option D := match pyD a, pyD b with
  | some x, some y => if SeqAt.shaped x = true ∧ SeqAt.shaped y = true then some (.bl (PyData.eqv x y)) else none
  | _, _ => none
def nef (a b : D) : Option D := match pyD a, pyD b with
  | some x, some y => if SeqAt.shaped x = true ∧ SeqAt.shaped y = true then some (.bl (!PyData.eqv x y)) else none
  | _, _ => none
theorem cs_eq (hK : X.K = G.K) (hu : X.A.units + 64 < cLine) : CmpS X G .Eq eqf := ⟨_, op_eqD hu, fun F H da db d x y Q s dx dy e k => by
  unfold eqf at e
  split at e
  · rename_i p q e1 e2
    split at e
    · rename_i sh
      cases e
      rw [hK]
      exact ⟨p, q, dx.dp s e1, dy.dp s e2, sh.1, sh.2, k _ F H (.refl s) (by simp [Den])⟩
    · cases e
  · cases e⟩
theorem cs_ne (hK : X.K = G.K) (hu : X.A.units + 64 < cLine) : CmpS X G .NotEq nef := ⟨_, op_neD hu, fun F H da db d x y Q s dx dy e k => by
  unfold nef at e
  split at e
  · rename_i p q e1 e2
    split at e
    · rename_i sh
      cases e
      rw [hK]
      exact ⟨p, q, dx.dp s e1, dy.dp s e2, sh.1, sh.2, k _ F H (.refl s) (by simp [Den])⟩
    · cases e
  · cases e⟩
/-! ### in -/
def rowD : D → Option (List D)
  | .lst ds => some ds
  | .tup ds => some ds
  | .kt ds => some ds
  | .scr ns => some (ns.map .int)
  | _ => none
def flatD : D → Option V
  | .non => some .non
  | .bl b => some (.bl b)
  | .int i => some (.int i)
  | .str x => some (.str x)
  | _ => none
def inDeep (a b : D) : Option Bool := match pyD a, pyD b with
  | some x, some (.list ys) => if SeqAt.shaped x = true ∧ SeqAt.shaped (.list ys) = true then some (ys.any fun z => PyData.eqv z x) else none
  | _, _ => none
def inStr (a b : D) : Option Bool := match a, b with
  | .str x, .str y => some (!(Builtin.Str.occurrences y x 0 y.length 1).isEmpty)
  | _, _ => none
def flats : List D → Option (List V)
  | [] => some []
  | d :: ds => match flatD d, flats ds with
    | some x, some xs => some (x :: xs)
    | _, _ => none
def inFlat (a b : D) : Option Bool := match flatD a, (rowD b).bind flats with
  | some x, some ys => some (inV x ys)
  | _, _ => none
theorem flatD_ok {F : Hp} {d : D} {v w : V} (h : Den G F d v) (e : flatD d = some w) : v = w ∧ flatV v = true := by
  cases d <;> first | (simp [flatD] at e; done) | (simp only [flatD, Option.some.injEq] at e; simp only [Den] at h; subst h; subst e; exact ⟨rfl, rfl⟩)
theorem flats_ok {F : Hp} : ∀ {ds : List D} {vs ws : List V}, DenL G F ds vs → flats ds = some ws → vs = ws ∧ vs.all flatV = true
  | [], vs, ws, h, e => by simp only [DenL] at h; simp only [flats, Option.some.injEq] at e; subst h; subst e; exact ⟨rfl, rfl⟩
  | d :: ds, vs, ws, h, e => by
    simp only [DenL] at h
    obtain ⟨v, r, rfl, h1, h2⟩ := h
    simp only [flats] at e
    cases e1 : flatD d with
    | none => rw [e1] at e; cases e
    | some x =>
      cases e2 : flats ds with
      | none => rw [e1, e2] at e; cases e
      | some xs =>
        rw [e1, e2] at e; cases e
        obtain ⟨q1, q2⟩ := flatD_ok h1 e1
        obtain ⟨q3, q4⟩ := flats_ok h2 e2
        exact ⟨by rw [q1, q3], by simp only [List.all_cons, q2, q4, Bool.and_self]⟩
theorem rowD_ok {F H : Hp} (s : Sub F H) {d : D} {v : V} {ds : List D} (h : Den G F d v) (e : rowD d = some ds) : ∃ a vs, v = .ref a ∧ (SqL G.K H a vs ∨ SqT G.K H a vs) ∧ DenL G F ds vs := by
  cases d with
  | lst ds0 =>
    simp only [rowD, Option.some.injEq] at e; subst e
    simp only [Den] at h
    obtain ⟨a, vs, rfl, f, l⟩ := h
    exact ⟨a, vs, rfl, .inl (SqL.of (s a _ f)), l⟩
  | tup ds0 =>
    simp only [rowD, Option.some.injEq] at e; subst e
    simp only [Den] at h
    obtain ⟨a, vs, rfl, f, l⟩ := h
    exact ⟨a, vs, rfl, .inr (SqT.of (s a _ f)), l⟩
  | kt ds0 =>
    simp only [rowD, Option.some.injEq] at e; subst e
    simp only [Den] at h
    obtain ⟨a, vs, rfl, f, l⟩ := h
    exact ⟨a, vs, rfl, .inr (sub_sqT s f), l⟩
  | scr ns =>
    simp only [rowD, Option.some.injEq] at e; subst e
    simp only [Den] at h
    obtain ⟨a, rfl, f⟩ := h
    exact ⟨a, _, rfl, .inl (sub_sqL s f), denL_ints ns⟩
  | _ => simp [rowD] at e
theorem rowD_len {F H : Hp} (s : Sub F H) {d : D} {v : V} {ds : List D} (h : Den G F d v) (e : rowD d = some ds) : ∃ a vs, v = .ref a ∧ (SqL G.K H a vs ∨ SqT G.K H a vs) ∧ vs.length = ds.length := by
  obtain ⟨a, vs, h1, h2, h3⟩ := rowD_ok s h e
  exact ⟨a, vs, h1, h2, h3.len⟩
def inf (a b : D) : Option D := (orF inFlat (orF inStr inDeep) a b).map .bl
def ninf (a b : D) : Option D := (orF inFlat (orF inStr inDeep) a b).map fun k => .bl (!k)
theorem opD_inFlat {neg : Bool} : OpD G (rIn G.K neg) (fun a b => (inFlat a b).map fun k => .bl (if neg then !k else k)) := fun F H da db d x y Q s dx dy e k => by
  cases e0 : inFlat da db with
  | none => simp only [e0, Option.map_none] at e; cases e
  | some b0 =>
    simp only [e0, Option.map_some, Option.some.injEq] at e
    subst e
    unfold inFlat at e0
    split at e0
    · rename_i p q e1 e2
      cases e0
      cases e3 : rowD db with
      | none => rw [e3] at e2; cases e2
      | some ds =>
        rw [e3] at e2
        obtain ⟨a, vs, rfl, h1, h2⟩ := rowD_ok s.s dy e3
        obtain ⟨q1, q2⟩ := flatD_ok dx e1
        obtain ⟨q3, q4⟩ := flats_ok h2 e2
        subst q1; subst q3
        exact ⟨a, _, rfl, h1, q2, q4, k _ F H (.refl s) (by cases neg <;> simp [Den])⟩
    · cases e0
theorem cs_in (hK : X.K = G.K) (hu : X.A.units + 65 < cLine) : CmpS X G .In inf := by
  refine ⟨_, OpR.or' op_in_seq (OpR.or' op_in_str (op_inD hu)), fun F H da db d x y Q s dx dy e k => ?_⟩
  rw [hK]
  unfold inf at e
  cases e0 : inFlat da db with
  | some b => 
    simp only [orF, e0, Option.map_some, Option.some.injEq] at e
    subst e
    exact .inl (opD_inFlat (neg := false) F H da db (.bl b) x y Q s dx dy (by simp [e0]) k)
  | none =>
    cases e1 : inStr da db with
    | some b =>
      simp only [orF, e0, e1, Option.map_some, Option.some.injEq] at e
      subst e
      unfold inStr at e1
      split at e1
      · rename_i p q
        simp only [Den] at dx dy
        cases e1
        exact .inr (.inl ⟨p, q, dx, dy, k _ F H (.refl s) (by simp [Den])⟩)
      · cases e1
    | none =>
      simp only [orF, e0, e1] at e
      unfold inDeep at e
      split at e
      · rename_i p q e2 e3
        split at e
        · rename_i sh
          cases e
          exact .inr (.inr ⟨p, q, dx.dp s e2, dy.dp s e3, sh.1, sh.2, k _ F H (.refl s) (by simp [Den])⟩)
        · cases e
      · cases e
theorem cs_notin (hK : X.K = G.K) (hu : X.A.units + 65 < cLine) : CmpS X G .NotIn ninf := by
  refine ⟨_, OpR.or' op_notIn_seq (OpR.or' op_notIn_str (op_notInD hu)), fun F H da db d x y Q s dx dy e k => ?_⟩
  rw [hK]
  unfold ninf at e
  cases e0 : inFlat da db with
  | some b => 
    simp only [orF, e0, Option.map_some, Option.some.injEq] at e
    subst e
    exact .inl (opD_inFlat (neg := true) F H da db (.bl !b) x y Q s dx dy (by simp [e0]) k)
  | none =>
    cases e1 : inStr da db with
    | some b =>
      simp only [orF, e0, e1, Option.map_some, Option.some.injEq] at e
      subst e
      unfold inStr at e1
      split at e1
      · rename_i p q
        simp only [Den] at dx dy
        cases e1
        exact .inr (.inl ⟨p, q, dx, dy, k _ F H (.refl s) (by simp [Den])⟩)
      · cases e1
    | none =>
      simp only [orF, e0, e1] at e
      unfold inDeep at e
      split at e
      · rename_i p q e2 e3
        split at e
        · rename_i sh
          cases e
          exact .inr (.inr ⟨p, q, dx.dp s e2, dy.dp s e3, sh.1, sh.2, k _ F H (.refl s) (by simp [Den])⟩)
        · cases e
      · cases e
/-! ### is None; order -/
def isN (a b : D) : Option D := match b with
  | .non => (match a with
    | .bad => none
    | .non => some (.bl true)
    | _ => some (.bl false))
  | _ => none
def isNN (a b : D) : Option D := match b with
  | .non => (match a with
    | .bad => none
    | .non => some (.bl false)
    | _ => some (.bl true))
  | _ => none
theorem den_non {F : Hp} {d : D} {v : V} (h : Den G F d v) (n : d ≠ .non) (b : d ≠ .bad) : v ≠ .non := by
  cases d <;> first | exact absurd rfl n | exact absurd rfl b | skip
  all_goals simp only [Den] at h
  all_goals first
    | (subst h; intro z; cases z; done)
    | (obtain ⟨a, vs, rfl, _⟩ := h; intro z; cases z; done)
    | (obtain ⟨a, _, _, _, rfl, _⟩ := h; intro z; cases z; done)
    | (obtain ⟨a, rfl, _⟩ := h; intro z; cases z; done)
theorem cs_is : CmpS X G .Is isN := ⟨_, op_isN, fun F H da db d x y Q s dx dy e k => by
  unfold isN at e
  split at e
  · simp only [Den] at dy
    refine ⟨dy, ?_⟩
    split at e
    · cases e
    · cases e; simp only [Den] at dx; subst dx; exact k _ F H (.refl s) (by simp [Den])
    · rename_i n1 n2; cases e; exact k _ F H (.refl s) (by simp [Den, den_non dx n2 n1])
  · cases e⟩
theorem cs_isnot : CmpS X G .IsNot isNN := ⟨_, op_notN, fun F H da db d x y Q s dx dy e k => by
  unfold isNN at e
  split at e
  · simp only [Den] at dy
    refine ⟨dy, ?_⟩
    split at e
    · cases e
    · cases e; simp only [Den] at dx; subst dx; exact k _ F H (.refl s) (by simp [Den])
    · rename_i n1 n2; cases e; exact k _ F H (.refl s) (by simp [Den, den_non dx n2 n1])
  · cases e⟩
def cmpI (f : Int → Int → Bool) (a b : D) : Option D := match a, b with
  | .int i, .int j => some (.bl (f i j))
  | _, _ => none
theorem opD_I {g : Int → Int → V} {f : Int → Int → Bool} (h : ∀ i j, g i j = .bl (f i j)) : OpD G (rI0 g) (cmpI f) := fun F H da db d x y Q s dx dy e k => by
  unfold cmpI at e
  split at e
  · rename_i i j
    simp only [Den] at dx dy
    cases e
    exact ⟨i, j, dx, dy, by rw [h]; exact k _ F H (.refl s) (by simp [Den])⟩
  · cases e
def cmpSt (f : Str → Str → Bool) (a b : D) : Option D := match a, b with
  | .str i, .str j => some (.bl (f i j))
  | _, _ => none
theorem opD_S {f : Str → Str → Bool} : OpD G (fun x y H Q => ∃ i j, x = .str i ∧ y = .str j ∧ Q (.bl (f i j)) H) (cmpSt f) := fun F H da db d x y Q s dx dy e k => by
  unfold cmpSt at e
  split at e
  · rename_i i j
    simp only [Den] at dx dy
    cases e
    exact ⟨i, j, dx, dy, k _ F H (.refl s) (by simp [Den])⟩
  · cases e
def ltf := orF (cmpI fun i j => decide (i < j)) (cmpSt fun i j => decide (i.cps.toList < j.cps.toList))
def lef := orF (cmpI fun i j => decide (i ≤ j)) (cmpSt fun i j => !decide (j.cps.toList < i.cps.toList))
def gtf := orF (cmpI fun i j => decide (j < i)) (cmpSt fun i j => decide (j.cps.toList < i.cps.toList))
def gef := orF (cmpI fun i j => decide (j ≤ i)) (cmpSt fun i j => !decide (i.cps.toList < j.cps.toList))
theorem cs_lt : CmpS X G .Lt ltf := ⟨_, OpR.or' op_lt op_lt_str, (opD_I fun _ _ => rfl).or (opD_S (f := fun i j => decide (i.cps.toList < j.cps.toList)))⟩
theorem cs_le : CmpS X G .LtE lef := ⟨_, OpR.or' op_le op_le_str, (opD_I fun _ _ => rfl).or (opD_S (f := fun i j => !decide (j.cps.toList < i.cps.toList)))⟩
theorem cs_gt : CmpS X G .Gt gtf := ⟨_, OpR.or' op_gt op_gt_str, (opD_I fun _ _ => rfl).or (opD_S (f := fun i j => decide (j.cps.toList < i.cps.toList)))⟩
theorem cs_ge : CmpS X G .GtE gef := ⟨_, OpR.or' op_ge op_ge_str, (opD_I fun _ _ => rfl).or (opD_S (f := fun i j => !decide (i.cps.toList < j.cps.toList)))⟩
/-! ### sums and so on -/
def binI (c : Int → Int → Bool) (f : Int → Int → Int) (a b : D) : Option T := match a, b with
  | .int i, .int j => if c i j = true then some (.fz (.int (f i j))) else none
  | _, _ => none
theorem opT_I {P : Int → Int → Prop} {c : Int → Int → Bool} {f : Int → Int → Int} (h : ∀ i j, c i j = true → P i j) : OpT G (rI P fun i j => .int (f i j)) (binI c f) := fun F H da db t x y Q s dx dy e k => by
  unfold binI at e
  split at e
  · rename_i i j
    split at e
    · rename_i hc
      simp only [Den] at dx dy
      cases e
      exact ⟨i, j, dx, dy, h i j hc, k _ F H (.refl s) (by simp [Den])⟩
    · cases e
  · cases e
theorem opT_I0 {f : Int → Int → Int} : OpT G (rI0 fun i j => .int (f i j)) (binI (fun _ _ => true) f) := fun F H da db t x y Q s dx dy e k => by
  unfold binI at e
  split at e
  · rename_i i j
    split at e
    · simp only [Den] at dx dy
      cases e
      exact ⟨i, j, dx, dy, k _ F H (.refl s) (by simp [Den])⟩
    · cases e
  · cases e
def addS (a b : D) : Option T := match a, b with
  | .str i, .str j => if i.length + j.length ≤ sizeLine then some (.fz (.str (i ++ j))) else none
  | _, _ => none
def addL (a b : D) : Option T := match a, b with
  | .lst xs, .lst ys => if xs.length + ys.length ≤ sizeLine then some (.lst (xs ++ ys)) else none
  | _, _ => none
def tupD : D → Option (List D)
  | .tup ds => some ds
  | .kt ds => some ds
  | _ => none
def addT (a b : D) : Option T := match a, b with
  | .tup xs, .tup ys => if xs.length + ys.length ≤ sizeLine then some (.fz (.tup (xs ++ ys))) else none
  | _, _ => none
def addIB (a b : D) : Option T := match a, b with
  | .int i, .bl k => some (.fz (.int (i + b2i k)))
  | _, _ => none
def addf := orF (binI (fun _ _ => true) (· + ·)) (orF addS (orF addL (orF addT addIB)))
theorem opT_addS : OpT G (fun x y H Q => ∃ i j, x = .str i ∧ y = .str j ∧ i.length + j.length ≤ sizeLine ∧ Q (.str (i ++ j)) H) addS := fun F H da db t x y Q s dx dy e k => by
  unfold addS at e
  split at e
  · rename_i i j
    split at e
    · rename_i hc
      simp only [Den] at dx dy
      cases e
      exact ⟨i, j, dx, dy, hc, k _ F H (.refl s) (by simp [Den])⟩
    · cases e
  · cases e
theorem opT_addL : OpT G rCat addL := fun F H da db t x y Q s dx dy e k => by
  unfold addL at e
  split at e
  · rename_i xs ys
    split at e
    · rename_i hc
      simp only [Den] at dx dy
      obtain ⟨a, vs, rfl, f1, l1⟩ := dx
      obtain ⟨b, ws, rfl, f2, l2⟩ := dy
      cases e
      refine ⟨a, b, vs, ws, rfl, rfl, s a _ f1, s b _ f2, by rw [l1.len, l2.len]; exact hc, fun p hp => k p _ hp ?_⟩
      simp only [Own]
      refine ⟨p, vs ++ ws, rfl, rfl, ?_, upd_same, l1.app l2⟩
      cases e : F p with
      | none => rfl
      | some u => rw [s p u e] at hp; cases hp
    · cases e
  · cases e
theorem opT_addT : OpT G (rCatA G.K) addT := fun F H da db t x y Q s dx dy e k => by
  unfold addT at e
  split at e
  · rename_i xs ys
    split at e
    · rename_i hc
      have dx' := dx
      have dy' := dy
      simp only [Den] at dx dy
      obtain ⟨a, vs, rfl, f1, l1⟩ := dx
      obtain ⟨b, ws, rfl, f2, l2⟩ := dy
      cases e
      refine ⟨a, b, vs, ws, rfl, rfl, SqT.of (s a _ f1), SqT.of (s b _ f2), by rw [l1.len, l2.len]; exact hc, fun e => ?_, fun _ e => ?_, fun _ _ p hp => ?_⟩
      · have : xs = [] := List.length_eq_zero_iff.mp (by rw [← l1.len, e]; rfl)
        subst this
        exact k _ F H (.refl s) (by simpa using dy')
      · have : ys = [] := List.length_eq_zero_iff.mp (by rw [← l2.len, e]; rfl)
        subst this
        exact k _ F H (.refl s) (by simpa using dx')
      · have l : Lay F H (upd F p (.tup (vs ++ ws))) (upd H p (.tup (vs ++ ws))) := Lay.new s hp
        exact k _ _ _ l (by simp only [Den]; exact ⟨p, _, rfl, upd_same, (l1.app l2).gr l.gr⟩)
    · cases e
  · cases e
theorem opT_addIB : OpT G (fun x y H Q => ∃ i k, x = .int i ∧ y = .bl k ∧ Q (.int (i + b2i k)) H) addIB := fun F H da db t x y Q s dx dy e k => by
  unfold addIB at e
  split at e
  · rename_i i j
    simp only [Den] at dx dy
    cases e
    exact ⟨i, j, dx, dy, k _ F H (.refl s) (by simp [Den])⟩
  · cases e
theorem bs_add (hK : X.K = G.K) : BinS X G .Add addf := ⟨_, OpR.or' op_add (OpR.or' op_add_str (OpR.or' op_cat (OpR.or' (hK ▸ op_catA (X := X)) op_add_ib))), opT_I0.or (opT_addS.or (opT_addL.or (opT_addT.or opT_addIB)))⟩
def subf := binI (fun _ _ => true) (· - ·)
theorem bs_sub : BinS X G .Sub subf := ⟨_, op_sub, opT_I0⟩
def mulf := binI (fun i j => decide ((-(2 ^ 64) < i ∧ i < 2 ^ 64) ∨ (-(2 ^ 64) < j ∧ j < 2 ^ 64))) (· * ·)
theorem bs_mul : BinS X G .Mult mulf := ⟨_, op_mul, opT_I fun i j h => by have z := of_decide_eq_true h; exact z⟩
def fdivf := binI (fun _ j => decide (j ≠ 0 ∧ j.natAbs < 1073741824)) Int.fdiv
theorem bs_fdiv : BinS X G .FloorDiv fdivf := ⟨_, op_fdivN, opT_I fun i j h => by have z := of_decide_eq_true h; exact z⟩
def modf := binI (fun _ j => decide (j ≠ 0)) Int.fmod
theorem bs_mod : BinS X G .Mod modf := ⟨_, op_modN, opT_I fun i j h => by have z := of_decide_eq_true h; exact z⟩
def powf := binI (fun i j => decide (0 ≤ j ∧ j ≤ 1000000 ∧ i.natAbs < 2 ^ 64)) (fun i j => i ^ j.toNat)
theorem bs_pow : BinS X G .Pow powf := ⟨_, op_pow, opT_I fun i j h => by have z := of_decide_eq_true h; exact z⟩
def negf (a : D) : Option D := match a with
  | .int i => some (.int (-i))
  | _ => none
theorem de_neg (ha : DE X G W C a ga) : DE X G W C (.UnaryOp .USub a pos) (fun env => (ga env).bind fun x e => lft (negf x) e) := de_un un_neg (fun F H da d x Q s dx e k => by
  unfold negf at e
  split at e
  · rename_i i
    simp only [Den] at dx
    cases e
    exact ⟨i, dx, k _ F H (.refl s) (by simp [Den])⟩
  · cases e) ha
/-! ### items -/
def ixf (a b : D) : Option D := match b with
  | .int i => (match a with
    | .str z => if z.length ≤ sizeLine then (atI z.cps.toList i).map fun c => .str ⟨#[c]⟩ else none
    | a => (rowD a).bind fun ds => atI ds i)
  | _ => none
theorem ix_s (hK : X.K = G.K) : IxS X G ixf := ⟨_, ix_seq, fun F H da db d x y Q s dx dy e k => by
  rw [hK]
  unfold ixf at e
  split at e
  · rename_i i
    simp only [Den] at dy
    subst dy
    split at e
    · rename_i z
      split at e
      · rename_i hz
        simp only [Den] at dx
        cases ec : atI z.cps.toList i with
        | none => rw [ec] at e; cases e
        | some c => rw [ec] at e; cases e; exact .inr (.inr ⟨z, i, c, dx, rfl, hz, ec, k _ F H (.refl s) (by simp [Den])⟩)
      · cases e
    · cases er : rowD da with
      | none => rw [er] at e; cases e
      | some ds =>
        rw [er] at e
        obtain ⟨a, vs, rfl, h1, h2⟩ := rowD_ok s.s dx er
        obtain ⟨v, h3, h4⟩ := atI_den h2 e
        rcases h1 with h1 | h1
        · exact .inl ⟨a, vs, i, v, rfl, rfl, h1, h3, k v F H (.refl s) h4⟩
        · exact .inr (.inl ⟨a, vs, i, v, rfl, rfl, h1, h3, k v F H (.refl s) h4⟩)
  · cases e⟩
/-! ### len, list, tuple, int, bool, any, all -/
def lenf (ds : List D) : Option T := match ds with
  | [.str z] => if z.length ≤ sizeLine then some (.fz (.int z.length)) else none
  | [d] => (rowD d).map fun xs => .fz (.int xs.length)
  | _ => none
theorem denL_1 {F : Hp} {d : D} {xs : List V} (h : DenL G F [d] xs) : ∃ v, xs = [v] ∧ Den G F d v := by
  simp only [DenL] at h
  obtain ⟨v, r, rfl, h1, rfl⟩ := h
  exact ⟨v, rfl, h1⟩
theorem denL_2 {F : Hp} {d e : D} {xs : List V} (h : DenL G F [d, e] xs) : ∃ v w, xs = [v, w] ∧ Den G F d v ∧ Den G F e w := by
  simp only [DenL] at h
  obtain ⟨v, r, rfl, h1, w, r2, rfl, h2, rfl⟩ := h
  exact ⟨v, w, rfl, h1, h2⟩
theorem cl_len (hK : X.K = G.K) : CallS X G (.builtin "len") lenf := ⟨_, call_len, fun F H ds t xs Q s dx e k => by
  rw [hK]
  unfold lenf at e
  split at e
  · rename_i z
    obtain ⟨v, rfl, h1⟩ := denL_1 dx
    simp only [Den] at h1
    subst h1
    split at e
    · rename_i hz
      cases e
      exact ⟨_, z.length, rfl, ⟨hz, rfl⟩, k _ F H (.refl s) (by simp [Den])⟩
    · cases e
  · rename_i d _
    obtain ⟨v, rfl, h1⟩ := denL_1 dx
    cases er : rowD d with
    | none => rw [er] at e; cases e
    | some ds =>
      rw [er] at e
      cases e
      obtain ⟨a, vs, rfl, h2, h3⟩ := rowD_len s.s h1 er
      refine ⟨_, vs.length, rfl, ?_, k _ F H (.refl s) (by simp [Den, h3])⟩
      rcases h2 with h2 | h2
      · exact .inl ⟨vs, h2, rfl⟩
      · exact .inr ⟨vs, h2, rfl⟩
  · cases e⟩
def listf (ds : List D) : Option T := match ds with
  | [d] => (rowD d).map .lst
  | _ => none
theorem newO_lst {F H : Hp} {ds : List D} {vs : List V} {p : Addr} (s : Sub F H) (hp : H p = none) (l : DenL G F ds vs) : Own G F (upd H p (.lst vs)) (.lst ds) (.ref p) [p] := by
  simp only [Own]
  refine ⟨p, vs, rfl, rfl, ?_, upd_same, l⟩
  cases e : F p with
  | none => rfl
  | some u => rw [s p u e] at hp; cases hp
theorem cl_list (hK : X.K = G.K) : CallS X G (.type "list") listf := ⟨_, call_list_of, fun F H ds t xs Q s dx e k => by
  rw [hK]
  unfold listf at e
  split at e
  · rename_i d
    obtain ⟨v, rfl, h1⟩ := denL_1 dx
    cases er : rowD d with
    | none => rw [er] at e; cases e
    | some ds =>
      rw [er] at e
      cases e
      obtain ⟨a, vs, rfl, h2, h3⟩ := rowD_ok s.s h1 er
      exact ⟨a, vs, rfl, h2, fun p hp => k p _ hp (newO_lst s hp h3)⟩
  · cases e⟩
def tuplef (ds : List D) : Option T := match ds with
  | [.lst xs] => some (.fz (.tup xs))
  | [.scr ns] => some (.fz (.tup (ns.map .int)))
  | [.tup xs] => some (.fz (.tup xs))
  | [.kt xs] => some (.fz (.kt xs))
  | _ => none
theorem cl_tuple (hK : X.K = G.K) : CallS X G (.type "tuple") tuplef := ⟨_, call_tuple_of, fun F H ds t xs Q s dx e k => by
  rw [hK]
  unfold tuplef at e
  split at e
  · rename_i ys
    cases e
    obtain ⟨v, rfl, h1⟩ := denL_1 dx
    simp only [Den] at h1
    obtain ⟨a, vs, rfl, f, l1⟩ := h1
    refine ⟨a, vs, rfl, .inl ⟨SqL.of (s a _ f), fun p hp => ?_⟩⟩
    have l : Lay F H (upd F p (.tup vs)) (upd H p (.tup vs)) := Lay.new s hp
    exact k _ _ _ l (by simp only [Den]; exact ⟨p, _, rfl, upd_same, l1.gr l.gr⟩)
  · rename_i ns
    cases e
    obtain ⟨v, rfl, h1⟩ := denL_1 dx
    simp only [Den] at h1
    obtain ⟨a, rfl, f⟩ := h1
    refine ⟨a, _, rfl, .inl ⟨sub_sqL s f, fun p hp => ?_⟩⟩
    have l : Lay F H (upd F p (.tup (ns.map V.int))) (upd H p (.tup (ns.map V.int))) := Lay.new s hp
    exact k _ _ _ l (by simp only [Den]; exact ⟨p, _, rfl, upd_same, denL_ints ns⟩)
  · rename_i ys
    cases e
    obtain ⟨v, rfl, h1⟩ := denL_1 dx
    have h0 := h1
    simp only [Den] at h1
    obtain ⟨a, vs, rfl, f, l1⟩ := h1
    exact ⟨a, vs, rfl, .inr ⟨SqT.of (s a _ f), k _ F H (.refl s) h0⟩⟩
  · rename_i ys
    cases e
    obtain ⟨v, rfl, h1⟩ := denL_1 dx
    have h0 := h1
    simp only [Den] at h1
    obtain ⟨a, vs, rfl, f, l1⟩ := h1
    exact ⟨a, vs, rfl, .inr ⟨sub_sqT s f, k _ F H (.refl s) h0⟩⟩
  · cases e⟩
def intf (ds : List D) : Option T := match ds with
  | [.int i] => some (.fz (.int i))
  | [.bl k] => some (.fz (.int (if k then 1 else 0)))
  | _ => none
theorem cl_int : CallS X G (.type "int") intf := ⟨_, call_int1, fun F H ds t xs Q s dx e k => by
  unfold intf at e
  split at e
  · cases e
    obtain ⟨v, rfl, h1⟩ := denL_1 dx
    simp only [Den] at h1
    subst h1
    exact .inl ⟨_, rfl, k _ F H (.refl s) (by simp [Den])⟩
  · cases e
    obtain ⟨v, rfl, h1⟩ := denL_1 dx
    simp only [Den] at h1
    subst h1
    exact .inr ⟨_, rfl, k _ F H (.refl s) (by simp [Den])⟩
  · cases e⟩
def blsD : List D → Option (List Bool)
  | [] => some []
  | .bl b :: r => (blsD r).map (b :: ·)
  | _ => none
theorem blsD_ok {F : Hp} : ∀ {ds : List D} {vs : List V} {bs : List Bool}, DenL G F ds vs → blsD ds = some bs → vs = bs.map V.bl
  | [], vs, bs, h, e => by simp only [DenL] at h; simp only [blsD, Option.some.injEq] at e; subst h; subst e; rfl
  | d :: ds, vs, bs, h, e => by
    cases d with
    | bl b =>
      simp only [DenL] at h
      obtain ⟨v, r, rfl, h1, h2⟩ := h
      simp only [blsD] at e
      cases q : blsD ds with
      | none => rw [q] at e; cases e
      | some bs' =>
        rw [q] at e; cases e
        simp only [Den] at h1
        rw [h1, blsD_ok h2 q]; rfl
    | _ => simp [blsD] at e
def anyf (ds : List D) : Option T := match ds with
  | [.lst xs] => (blsD xs).map fun bs => .fz (.bl (bs.any id))
  | _ => none
def allf (ds : List D) : Option T := match ds with
  | [.lst xs] => (blsD xs).map fun bs => .fz (.bl (bs.all id))
  | _ => none
theorem cl_any (hK : X.K = G.K) (hc : X.calm = true) : CallS X G (.builtin "any") anyf := ⟨_, cr_any hc, fun F H ds t xs Q s dx e k => by
  rw [hK]
  unfold anyf at e
  split at e
  · rename_i ys
    obtain ⟨v, rfl, h1⟩ := denL_1 dx
    simp only [Den] at h1
    obtain ⟨a, vs, rfl, f, l1⟩ := h1
    cases q : blsD ys with
    | none => rw [q] at e; cases e
    | some bs => rw [q] at e; cases e; exact ⟨a, bs, rfl, by rw [← blsD_ok l1 q]; exact SqL.of (s a _ f), k _ F H (.refl s) (by simp [Den])⟩
  · cases e⟩
theorem cl_all (hK : X.K = G.K) (hc : X.calm = true) : CallS X G (.builtin "all") allf := ⟨_, cr_all hc, fun F H ds t xs Q s dx e k => by
  rw [hK]
  unfold allf at e
  split at e
  · rename_i ys
    obtain ⟨v, rfl, h1⟩ := denL_1 dx
    simp only [Den] at h1
    obtain ⟨a, vs, rfl, f, l1⟩ := h1
    cases q : blsD ys with
    | none => rw [q] at e; cases e
    | some bs => rw [q] at e; cases e; exact ⟨a, bs, rfl, by rw [← blsD_ok l1 q]; exact SqL.of (s a _ f), k _ F H (.refl s) (by simp [Den])⟩
  · cases e⟩
end
end DL

end
section
namespace DL
open PySem PySem.Spec PyProof.Rows L2
variable [TB]
/-! ### isinstance -/
structure InsTy (K : PySem.W.Frag) (C : Addr) : Prop where
  cl : Cls K C
  ha : PySem.W.findIn K (.ref C) "__class__" = some (some (.builtin "object.__class__"))
  hn : PySem.W.specialIn K (.builtin "object.__class__") "__get__" = some (some (.builtin "getset_descriptor.__get__"))
  htk : PySem.W.takesIn K (.builtin "object.__class__") = some true
  hm : PySem.W.mroIn K C (.type "object") = some true
def tyD : D → Option String
  | .non => some "NoneType"
  | .bl _ => some "bool"
  | .int _ => some "int"
  | .str _ => some "str"
  | .tup _ => some "tuple"
  | .kt _ => some "tuple"
  | .lst _ => some "list"
  | .scr _ => some "list"
  | _ => none
section
variable {X : Cx} {G : Tx} {W : WX} {C : DCtx} {a b c e : Expr} {es : List Expr} {ga gb gc : Env → Out D} {gs : Env → Out (List D)} {pos : Pos}
theorem den_ty {F H : Hp} (s : Sub F H) {d : D} {v : V} {t : String} (h : Den G F d v) (e : tyD d = some t) : TyX G.K H v (.type t) := by
  cases d with
  | non => simp only [Den] at h; simp only [tyD, Option.some.injEq] at e; subst h; subst e; exact .base .non
  | bl b => simp only [Den] at h; simp only [tyD, Option.some.injEq] at e; subst h; subst e; exact .base (.bl b)
  | int b => simp only [Den] at h; simp only [tyD, Option.some.injEq] at e; subst h; subst e; exact .base (.int b)
  | str b => simp only [Den] at h; simp only [tyD, Option.some.injEq] at e; subst h; subst e; exact .base (.str b)
  | tup ds =>
    simp only [Den] at h; simp only [tyD, Option.some.injEq] at e; subst e
    obtain ⟨a, vs, rfl, f, _⟩ := h
    exact .base (.tup (s a _ f))
  | lst ds =>
    simp only [Den] at h; simp only [tyD, Option.some.injEq] at e; subst e
    obtain ⟨a, vs, rfl, f, _⟩ := h
    exact .base (.lst (s a _ f))
  | kt ds =>
    simp only [Den] at h; simp only [tyD, Option.some.injEq] at e; subst e
    obtain ⟨a, vs, rfl, f, _⟩ := h
    rcases f with (f | ⟨o, f⟩) | ⟨o, its, n, f, f2, _⟩
    · exact .base (.tup (s a _ f))
    · exact .fTuple (s a _ f)
    · exact .kTuple f f2
  | scr ns =>
    simp only [Den] at h; simp only [tyD, Option.some.injEq] at e; subst e
    obtain ⟨a, rfl, f⟩ := h
    rcases f with (f | ⟨o, f⟩) | ⟨o, its, n, f, f2, _⟩
    · exact .base (.lst (s a _ f))
    · exact .base (.frz (s a _ f))
    · exact .kList f f2
  | _ => simp [tyD] at e
def isiF (tt : List (String × Bool)) (cc : List (Nat × Bool)) (d : D) : Option Bool := match d with
  | .ins c _ => cc.lookup c
  | d => (tyD d).bind fun t => tt.lookup t
def IsiOk (G : Tx) (kit : Value → Option Bool) (tt : List (String × Bool)) (cc : List (Nat × Bool)) : Prop := (∀ p ∈ tt, kit (.type p.1) = some p.2) ∧ ∀ p ∈ cc, ∀ C, G.ct p.1 = some C → InsTy G.K C ∧ kit (.ref C) = some p.2
theorem lookup_mem {α β : Type} [BEq α] [LawfulBEq α] : ∀ {l : List (α × β)} {k : α} {v : β}, l.lookup k = some v → (k, v) ∈ l
  | [], k, v, h => by simp at h
  | (k0, v0) :: r, k, v, h => by
    rw [List.lookup_cons] at h
    split at h
    · rename_i q
      cases h
      rw [eq_of_beq q]
      exact List.mem_cons_self
    · exact List.mem_cons_of_mem _ (lookup_mem h)
theorem isi_ok {F H : Hp} (s : Sub F H) {kit : Value → Option Bool} {tt : List (String × Bool)} {cc : List (Nat × Bool)} (ok : IsiOk G kit tt cc) {d : D} {v : V} {b : Bool} (h : Den G F d v) (e : isiF tt cc d = some b) : ∃ t, TyX G.K H v t ∧ kit t = some b := by
  cases d with
  | ins c fs =>
    simp only [isiF] at e
    simp only [Den] at h
    obtain ⟨a, C, dx, vs, rfl, h1, h2, _⟩ := h
    obtain ⟨T, k⟩ := ok.2 _ (lookup_mem e) C h1
    exact ⟨_, .base (.ins (s a _ h2) T.cl T.ha T.hn T.htk T.hm), k⟩
  | _ =>
    simp only [isiF] at e
    first
      | (simp only [tyD] at e; cases e; done)
      | (simp only [tyD, Option.bind_some] at e
         exact ⟨_, den_ty s h rfl, ok.1 _ (lookup_mem e)⟩)
theorem de_isi {T : Str} {Tn : String} {tt : List (String × Bool)} {cc : List (Nat × Bool)} {p q : Pos} (hK : X.K = G.K) (ok : IsiOk G (fun t => PySem.W.kitOne G.K t (.type Tn)) tt cc) (hg : Gl X "isinstance") (hm : X.mg "isinstance" = none) (hgT : Gl X T) (hmT : X.mg T = none) (hbT : bootBuiltins T = some (.type Tn)) (he : DE X G W C e ga)
    (hnT : T ≠ "__name__" := by decide) (hdT : (T == ("__debug__" : Str)) = false := by decide) (h1 : starEach [e, .Name T q] X.env = (false, eval e X.env) :: starEach [.Name T q] X.env := by rfl) (h2 : starEach [.Name T q] X.env = (false, eval (.Name T q) X.env) :: starEach [] X.env := by rfl) (h3 : (backTo pos (starEach [.Name T q] X.env)).any (·.1) = false := by rfl) :
    DE X G W C (.Call (.Name "isinstance" p) [e, .Name T q] [] pos) (fun env => (ga env).bind fun d e => lft ((isiF tt cc d).map .bl) e) := by
  refine PE_imp (pe_callB (hv := by rfl) (call_isi (X := X)) hg hm (pa_cons he (pa_cons (pe_bltn (v := .ty Tn) hgT hmT hbT rfl hnT hdT) pa_nil h2) h1) (by decide) (by decide) h1 h3) fun σ H Q ⟨F, env, rp, h⟩ => ⟨F, env, rp, pst_bind h fun d e1 x H1 F1 g1 r1 q1 => ?_⟩
  cases ei : isiF tt cc d with
  | none => rw [ei] at q1; exact q1.elim
  | some k =>
    rw [ei] at q1
    obtain ⟨t, h4, h5⟩ := isi_ok r1.1.sub ok r1.2 ei
    rw [hK]
    exact ⟨x, .ty Tn, t, .type Tn, k, rfl, .ty Tn, h4, h5, q1 _ H1 F1 (.refl F1) ⟨r1.1, by simp [Den]⟩⟩
theorem de_isiC {T : Str} {A : Addr} {tt : List (String × Bool)} {cc : List (Nat × Bool)} {p q : Pos} (hK : X.K = G.K) (ok : IsiOk G (fun t => PySem.W.kitOne G.K t (.ref A)) tt cc) (hg : Gl X "isinstance") (hm : X.mg "isinstance" = none) (hgT : Gl X T) (hmT : X.mg T = some (.ref A)) (he : DE X G W C e ga)
    (hdT : (T == ("__debug__" : Str)) = false := by decide) (h1 : starEach [e, .Name T q] X.env = (false, eval e X.env) :: starEach [.Name T q] X.env := by rfl) (h2 : starEach [.Name T q] X.env = (false, eval (.Name T q) X.env) :: starEach [] X.env := by rfl) (h3 : (backTo pos (starEach [.Name T q] X.env)).any (·.1) = false := by rfl) :
    DE X G W C (.Call (.Name "isinstance" p) [e, .Name T q] [] pos) (fun env => (ga env).bind fun d e => lft ((isiF tt cc d).map .bl) e) := by
  refine PE_imp (pe_callB (hv := by rfl) (call_isi (X := X)) hg hm (pa_cons he (pa_cons (pe_glob (v := .ref A) hgT hmT rfl hdT) pa_nil h2) h1) (by decide) (by decide) h1 h3) fun σ H Q ⟨F, env, rp, h⟩ => ⟨F, env, rp, pst_bind h fun d e1 x H1 F1 g1 r1 q1 => ?_⟩
  cases ei : isiF tt cc d with
  | none => rw [ei] at q1; exact q1.elim
  | some k =>
    rw [ei] at q1
    obtain ⟨t, h4, h5⟩ := isi_ok r1.1.sub ok r1.2 ei
    rw [hK]
    exact ⟨x, .ref A, t, .ref A, k, rfl, .own A, h4, h5, q1 _ H1 F1 (.refl F1) ⟨r1.1, by simp [Den]⟩⟩
/-- two built-in classes in a tuple -/
theorem de_isi2 {T1 T2 : Str} {n1 n2 : String} {tt : List (String × Bool)} {cc : List (Nat × Bool)} {p q1 q2 pt : Pos} {kk : Nat} (hK : X.K = G.K) (ok : IsiOk G (fun t => PySem.W.kitAny G.K t [.type n1, .type n2]) tt cc) (hg : Gl X "isinstance") (hm : X.mg "isinstance" = none) (hg1 : Gl X T1) (hm1 : X.mg T1 = none) (hb1 : bootBuiltins T1 = some (.type n1))
    (hg2 : Gl X T2) (hm2 : X.mg T2 = none) (hb2 : bootBuiltins T2 = some (.type n2)) (he : DE X G W C e ga) (hn1 : T1 ≠ "__name__" := by decide) (hd1 : (T1 == ("__debug__" : Str)) = false := by decide) (hn2 : T2 ≠ "__name__" := by decide) (hd2 : (T2 == ("__debug__" : Str)) = false := by decide)
    (h0 : starEach [e, .Tuple [.Name T1 q1, .Name T2 q2] kk pt] X.env = (false, eval e X.env) :: starEach [.Tuple [.Name T1 q1, .Name T2 q2] kk pt] X.env := by rfl) (h2 : starEach [.Tuple [.Name T1 q1, .Name T2 q2] kk pt] X.env = (false, eval (.Tuple [.Name T1 q1, .Name T2 q2] kk pt) X.env) :: starEach [] X.env := by rfl)
    (h3 : (backTo pos (starEach [.Tuple [.Name T1 q1, .Name T2 q2] kk pt] X.env)).any (·.1) = false := by rfl) (h4 : starEach [.Name T1 q1, .Name T2 q2] X.env = (false, eval (.Name T1 q1) X.env) :: starEach [.Name T2 q2] X.env := by rfl) (h5 : starEach [.Name T2 q2] X.env = (false, eval (.Name T2 q2) X.env) :: starEach [] X.env := by rfl) :
    DE X G W C (.Call (.Name "isinstance" p) [e, .Tuple [.Name T1 q1, .Name T2 q2] kk pt] [] pos) (fun env => (ga env).bind fun d e => lft ((isiF tt cc d).map .bl) e) := by
  refine PE_imp (pe_callB (hv := by rfl) (call_isiT (X := X)) hg hm (pa_cons he (pa_cons (pe_tup (pa_cons (pe_bltn (v := .ty n1) hg1 hm1 hb1 rfl hn1 hd1) (pa_cons (pe_bltn (v := .ty n2) hg2 hm2 hb2 rfl hn2 hd2) pa_nil h5) h4)) pa_nil h2) h0) (by decide) (by decide) h0 h3) fun σ H Q ⟨F, env, rp, h⟩ => ⟨F, env, rp, pst_bind h fun d e1 x H1 F1 g1 r1 q1 => ?_⟩
  cases ei : isiF tt cc d with
  | none => rw [ei] at q1; exact q1.elim
  | some k =>
    rw [ei] at q1
    refine ⟨by show 2 ≤ sizeLine; decide, fun tp hp => ?_⟩
    have l : Lay F1 H1 (upd F1 tp (.tup [.ty n1, .ty n2])) (upd H1 tp (.tup [.ty n1, .ty n2])) := Lay.new r1.1.sub hp
    obtain ⟨t, h4, h5⟩ := isi_ok l.sub ok (r1.2.gr l.gr) ei
    rw [hK]
    exact ⟨x, tp, _, t, [.type n1, .type n2], k, rfl, upd_same, .cons (.ty n1) (.cons (.ty n2) .nil), h4, h5, q1 _ _ _ l.gr ⟨r1.1.lay l, by simp [Den]⟩⟩
/-! ### slices -/
def cutA {α : Type} (xs : List α) (lo hi : Option Int) : List α := (xs.drop (HT.sIx xs.length 0 lo)).take (HT.sIx xs.length xs.length hi - HT.sIx xs.length 0 lo)
def slf (d : D) (lo hi : Option Int) : Option T := match d with
  | .lst ds => some (.lst (cutA ds lo hi))
  | .scr ns => some (.lst (cutA (ns.map .int) lo hi))
  | .tup ds => some (.fz (.tup (cutA ds lo hi)))
  | .str z => if z.length ≤ sizeLine then some (.fz (.str (cutS z lo hi))) else none
  | _ => none
def dPo (G : Tx) (W : WX) (C : DCtx) (g : Env → Out (Option Int)) : TO := fun σ H Q => ∃ F env, Rep G C F H σ env ∧ pst (fun d F' H' e v => Rep G C F' H' σ e ∧ v = d) (exW G W C σ) Q F (g env)
abbrev DPo (X : Cx) (G : Tx) (W : WX) (C : DCtx) (e : Option Expr) (g : Env → Out (Option Int)) : Prop := PO X e (dPo G W C g)
theorem PO_imp {e : Option Expr} {t t' : TO} (h : PO X e t) (k : ∀ σ H Q, t' σ H Q → t σ H Q) : PO X e t' := ⟨fun pins s σ H Q I w => h.run pins s σ H Q I (k σ H Q w)⟩
def asI : D → Option Int
  | .int i => some i
  | _ => none
theorem dpo_none : DPo X G W C none (fun env => .ok none env) := PO_imp po_none fun σ H Q ⟨F, env, rp, h⟩ => h none H F (.refl F) ⟨rp, rfl⟩
theorem dpo_some (he : DE X G W C e ga) : DPo X G W C (some e) (fun env => (ga env).bind fun d e => lft ((asI d).map some) e) := PO_imp (po_some he) fun σ H Q ⟨F, env, rp, h⟩ => ⟨F, env, rp, pst_bind h fun d e1 x H1 F1 g1 r1 q1 => by
  cases d with
  | int i =>
    have z := r1.2
    simp only [Den] at z
    exact ⟨i, z, q1 (some i) H1 F1 (.refl F1) ⟨r1.1, rfl⟩⟩
  | _ => exact q1.elim⟩
theorem DenL.cut {F : Hp} {ds : List D} {vs : List V} (h : DenL G F ds vs) (lo hi : Option Int) : DenL G F (cutA ds lo hi) (cutV vs lo hi) := by
  unfold cutA cutV
  rw [h.len]
  exact (h.dropD _).takeD _
theorem cutA_all {α : Type} {xs : List α} {lo hi : Option Int} (h : HT.sIx xs.length 0 lo = 0 ∧ HT.sIx xs.length xs.length hi = xs.length) : cutA xs lo hi = xs := by
  unfold cutA
  rw [h.1, h.2]
  simp
theorem do_slice {lo hi : Option Expr} {gl gh : Env → Out (Option Int)} {p2 : Pos} (hK : X.K = G.K) (he : DE X G W C e ga) (hl : DPo X G W C lo gl) (hh : DPo X G W C hi gh) : DO X G W C (.Subscript e (.Slice lo hi none p2) pos) (fun env => (ga env).bind fun d e => (gl e).bind fun l e => (gh e).bind fun h e => lft (slf d l h) e) := by
  refine PE_imp (pe_slice (SlR.or sl_list (SlR.or sl_tupA sl_str)) he hl hh) fun σ H Q ⟨F, env, rp, h⟩ => ⟨F, env, rp, pst_bind h fun d e1 x H1 F1 g1 r1 q1 => ⟨F1, e1, r1.1, pst_bind q1 fun l e2 l' H2 F2 g2 r2 q2 => ⟨F2, e2, r2.1, pst_bind q2 fun u e3 u' H3 F3 g3 r3 q3 => ?_⟩⟩⟩
  obtain ⟨r2, rfl⟩ := r2
  obtain ⟨r3, rfl⟩ := r3
  rw [hK]
  have dx := (r1.2.gr g2).gr g3
  cases es : slf d l' u' with
  | none => rw [es] at q3; exact q3.elim
  | some t =>
    rw [es] at q3
    unfold slf at es
    split at es
    · rename_i ds
      cases es
      simp only [Den] at dx
      obtain ⟨a, vs, rfl, f, dl⟩ := dx
      exact .inl ⟨a, vs, rfl, SqL.of (r3.sub a _ f), fun p hp => res_of r3 q3 p _ hp (newO_lst r3.sub hp (dl.cut l' u'))⟩
    · rename_i ns
      cases es
      simp only [Den] at dx
      obtain ⟨a, rfl, f⟩ := dx
      exact .inl ⟨a, _, rfl, sub_sqL r3.sub f, fun p hp => res_of r3 q3 p _ hp (newO_lst r3.sub hp ((denL_ints ns).cut l' u'))⟩
    · rename_i ds
      cases es
      have dx' := dx
      simp only [Den] at dx
      obtain ⟨a, vs, rfl, f, dl⟩ := dx
      refine .inr (.inl ⟨a, vs, rfl, SqT.of (r3.sub a _ f), fun z => ?_, fun z p hp => ?_⟩)
      · rw [dl.len] at z
        exact res_of r3 q3 _ F3 H3 (.refl r3.sub) (by rw [cutA_all z]; exact dx')
      · have l : Lay F3 H3 (upd F3 p (.tup (cutV vs l' u'))) (upd H3 p (.tup (cutV vs l' u'))) := Lay.new r3.sub hp
        exact res_of r3 q3 _ _ _ l (by simp only [Den]; exact ⟨p, _, rfl, upd_same, (dl.cut l' u').gr l.gr⟩)
    · rename_i z
      split at es
      · rename_i hz
        cases es
        simp only [Den] at dx
        exact .inr (.inr ⟨z, dx, hz, res_of r3 q3 _ F3 H3 (.refl r3.sub) (by simp [Den])⟩)
      · cases es
    · cases es
/-! ### stars -/
theorem da_star {p : Pos} (hK : X.K = G.K) (he : DE X G W C e ga) (hr : DA X G W C es gs) (hs : starEach (.Starred e p :: es) X.env = (true, eval e X.env) :: starEach es X.env := by rfl) : DA X G W C (.Starred e p :: es) (fun env => (ga env).bind fun d e => (lft (rowD d) e).bind fun xs e => (gs e).bind fun ys e => .ok (xs ++ ys) e) :=
  PA_imp (StX.pa_star he hr hs) fun σ H Q ⟨F, env, rp, h⟩ => ⟨F, env, rp, pst_bind h fun d e1 x H1 F1 g1 r1 q1 => by
    cases er : rowD d with
    | none => rw [er] at q1; exact q1.elim
    | some xs =>
      rw [er] at q1
      obtain ⟨a, vs, rfl, h1, h2⟩ := rowD_ok r1.1.sub r1.2 er
      rw [hK]
      exact ⟨a, vs, rfl, h1.symm, F1, e1, r1.1, pst_bind q1 fun ys e2 ws H2 F2 g2 r2 q2 => q2 _ H2 F2 (.refl F2) ⟨r2.1, (h2.gr g2).app r2.2⟩⟩⟩
theorem star_rg {pins : List (Addr × Obj)} {σ : L2.St} {H : Hp} {s : Shared} {E : Value → Shared → Prop} {r : Addr} {a b : Int} {t u v : Tok} {Q : List Value → Shared → Prop} (hc : X.calm = true) (I : L2.Inv X pins σ H s) (hr : IsRange s.heap r a b 1 t u v) (ok : RgOk a b) (hQ : ∀ us s', L2.Inv X pins σ H s' → Vals (rgV a b) us → Q us s') : PySem.W.StarOf (model X.prog X.w) X.A E (.ref r) Q s := by
  obtain ⟨b1, b2, b3, b4, b5⟩ := ok
  have hT : s.TypeIs (.ref r) "range" := ⟨_, hr, rfl⟩
  have z : wpAny (model X.prog X.w) X.A (collect (.ref r)) Q E s := collect_range (n := (b - a).toNat) (I.ok.hd hc) hr (small_one b1 b2 b3 b4) (rangeSize_nat a b) b5 fun h' tk acc hk hi => hQ _ _ (I.kept hk) (vals_rg hi)
  unfold PySem.W.StarOf notIterableAtAll
  exact wpAny_bind (wpAny_specialOf hT PySem.F.slot_range_iter.lookup (wpAny_pure ⟨rfl, z⟩))
def rgD (j : Int) : List D := (List.range j.toNat).map fun i : Nat => .int i
def okRg (d : D) : Option Int := match d with
  | .int j => if -(2 ^ 62) ≤ j ∧ j < 2 ^ 62 ∧ j.toNat ≤ 2 ^ 24 then some j else none
  | _ => none
theorem okRg_ok {d : D} {j : Int} (e : okRg d = some j) : d = .int j ∧ RgOk 0 j := by
  unfold okRg at e
  split at e
  · split at e
    · rename_i h
      cases e
      exact ⟨rfl, by omega, by omega, h.1, h.2.1, by have := h.2.2; simpa using this⟩
    · cases e
  · cases e
theorem den_rg {F : Hp} {j : Int} : DenL G F (rgD j) (rgV 0 j) := by
  unfold rgD rgV
  rw [show (j - 0).toNat = j.toNat from by rw [Int.sub_zero]]
  generalize j.toNat = n
  have : ∀ l : List Nat, DenL G F (l.map fun i : Nat => D.int i) (l.map fun i => V.int (0 + (i : Nat))) := fun l => by
    induction l with
    | nil => simp [DenL]
    | cons x l ih =>
      simp only [List.map_cons, DenL]
      exact ⟨_, _, rfl, by simp [Den], ih⟩
  exact this _
theorem pa_starRg {p : Pos} {te : L2.St → Hp → (Int → Int → Hp → Prop) → Prop} {t : TA} (hc : X.calm = true) (he : PRg X e te) (hr : PA X es t) (hs : starEach (.Starred e p :: es) X.env = (true, eval e X.env) :: starEach es X.env := by rfl) :
    PA X (.Starred e p :: es) (fun σ H Q => te σ H fun a b H1 => RgOk a b ∧ t σ H1 fun ys H2 => Q (rgV a b ++ ys) H2) := by
  refine ⟨fun pos pins s σ H Q I h => ?_⟩
  refine PySem.W.items_star (thn (he pins s σ H _ I h) fun v s1 ⟨r, a, b, t1, t2, t3, H1, ev, ir, I1, ok, q⟩ => ?_) hs
  subst ev
  exact star_rg hc I1 ir ok fun us s2 I2 rv => thn (hr.run pos pins s2 σ H1 _ I2 q) fun ws s3 ⟨vs, H3, I3, r3, q3⟩ => ⟨_, H3, I3, rv.append r3, q3⟩
theorem da_starRg {p pr pq : Pos} (hc : X.calm = true) (hg : Gl X "range") (hm : X.mg "range" = none) (he : DE X G W C e ga) (hr : DA X G W C es gs) (na : starEach [e] X.env = (false, eval e X.env) :: starEach [] X.env := by rfl)
    (hs : starEach (.Starred (.Call (.Name "range" pr) [e] [] pq) p :: es) X.env = (true, eval (.Call (.Name "range" pr) [e] [] pq) X.env) :: starEach es X.env := by rfl) :
    DA X G W C (.Starred (.Call (.Name "range" pr) [e] [] pq) p :: es) (fun env => (ga env).bind fun d e => (lft (okRg d) e).bind fun j e => (gs e).bind fun ys e => .ok (rgD j ++ ys) e) :=
  PA_imp (pa_starRg hc (prg_1 hg hm he na) hr hs) fun σ H Q ⟨F, env, rp, h⟩ => ⟨F, env, rp, pst_bind h fun d e1 x H1 F1 g1 r1 q1 => by
    cases er : okRg d with
    | none => rw [er] at q1; exact q1.elim
    | some j =>
      rw [er] at q1
      obtain ⟨rfl, ok⟩ := okRg_ok er
      have z := r1.2
      simp only [Den] at z
      exact ⟨j, z, ok, F1, e1, r1.1, pst_bind q1 fun ys e2 ws H2 F2 g2 r2 q2 => q2 _ H2 F2 (.refl F2) ⟨r2.1, den_rg.app r2.2⟩⟩⟩
/-- list(range(e)) -/
theorem do_listRg {p pr pq : Pos} (hc : X.calm = true) (hgl : Gl X "list") (hml : X.mg "list" = none) (hg : Gl X "range") (hm : X.mg "range" = none) (he : DE X G W C e ga) (na : starEach [e] X.env = (false, eval e X.env) :: starEach [] X.env := by rfl)
    (nb : starEach [.Call (.Name "range" pr) [e] [] pq] X.env = (false, eval (.Call (.Name "range" pr) [e] [] pq) X.env) :: starEach [] X.env := by rfl) :
    DO X G W C (.Call (.Name "list" p) [.Call (.Name "range" pr) [e] [] pq] [] pos) (fun env => (ga env).bind fun d e => (lft (okRg d) e).bind fun j e => .ok (.lst (rgD j)) e) :=
  PE_imp (pe_listRg hc hgl hml (prg_1 hg hm he na) nb) fun σ H Q ⟨F, env, rp, h⟩ => ⟨F, env, rp, pst_bind h fun d e1 x H1 F1 g1 r1 q1 => by
    cases er : okRg d with
    | none => rw [er] at q1; exact q1.elim
    | some j =>
      rw [er] at q1
      obtain ⟨rfl, ok⟩ := okRg_ok er
      have z := r1.2
      simp only [Den] at z
      exact ⟨j, z, ok, fun p hp => RepV.new (F0 := F1) r1.1 q1 p _ hp (newO_lst r1.1.sub hp den_rg)⟩⟩
/-! ### a < b < c -/
theorem de_chain {op op' : CmpOp} {f f' : D → D → Option D} (ho : CmpS X G op f) (ho' : CmpS X G op' f') (ha : DE X G W C a ga) (hb : DE X G W C b gb) (hc : DE X G W C c gc) (hm : lastMarks [op, op'] [b, c] = false := by with_unfolding_all rfl) :
    DE X G W C (.Compare a [op, op'] [b, c] pos) (fun env => (ga env).bind fun x e => (gb e).bind fun y e => (lft ((f x y).bind asB) e).bind fun k e => if k = true then (gc e).bind fun z e => lft (f' y z) e else .ok (.bl false) e) := by
  obtain ⟨r, ho, hd⟩ := ho
  obtain ⟨r', ho', hd'⟩ := ho'
  refine PE_imp (pe_chain ho ho' ha hb hc hm) fun σ H Q ⟨F, env, rp, h⟩ => ⟨F, env, rp, pst_bind h fun da e1 x H1 F1 g1 r1 h1 => ⟨F1, e1, r1.1, pst_bind h1 fun db e2 y H2 F2 g2 r2 h2 => ?_⟩⟩
  cases e : f da db with
  | none => rw [e] at h2; exact h2.elim
  | some d =>
    rw [e] at h2
    refine hd F2 H2 da db d x y _ r2.1.subT (r1.2.gr g2) r2.2 e fun v F' H' l dv => ?_
    cases d with
    | bl k =>
      simp only [Den] at dv
      refine ⟨k, dv, ?_⟩
      cases k with
      | true =>
        simp only [if_pos]
        refine ⟨F', e2, r2.1.lay l, pst_bind (pst.gr (show pst (RlE G C σ) (exW G W C σ) Q F2 ((gc e2).bind fun z e => lft (f' db z) e) from h2) l.gr) fun dc e3 z H3 F3 g3 r3 h3 => ?_⟩
        cases e' : f' db dc with
        | none => rw [e'] at h3; exact h3.elim
        | some d' =>
          rw [e'] at h3
          exact hd' F3 H3 db dc d' y z Q r3.1.subT ((r2.2.gr l.gr).gr g3) r3.2 e' fun v F' H' l dv => h3 v H' F' l.gr ⟨r3.1.lay l, dv⟩
      | false => exact h2 _ H' F' l.gr ⟨r2.1.lay l, by simp [Den]⟩
    | _ => exact h2.elim
/-! ### dicts, looked at -/
def keyD : D → Option Key
  | .int i => some (.inl i)
  | .str x => some (.inr x)
  | _ => none
def keyEq : D → D → Bool
  | .int i, .int j => i == j
  | .str x, .str y => x == y
  | _, _ => false
def dget (kvs : List (D × D)) (k : D) : Option D := (kvs.find? fun p => keyEq p.1 k).map (·.2)
theorem denK_get {F : Hp} {k : Key} : ∀ {kvs : List (D × D)} {ks : List (Key × V)}, DenK G F kvs ks → match dget kvs (kD k) with
    | some d => ∃ v, valV ks k = some v ∧ Den G F d v
    | none => valV ks k = none
  | [], ks, h => by
    simp only [DenK] at h
    subst h
    rfl
  | (k0, d) :: r, ks, h => by
    simp only [DenK] at h
    obtain ⟨kk, v, t, rfl, rfl, h1, h2⟩ := h
    have ih := denK_get (k := k) h2
    have e : keyEq (kD kk) (kD k) = decide (kk = k) := by
      cases kk <;> cases k <;> simp [kD, keyEq]
      all_goals rfl
    by_cases q : kk = k
    · subst q
      have : dget ((kD kk, d) :: r) (kD kk) = some d := by
        unfold dget
        rw [List.find?_cons_of_pos (by simp [e])]
        rfl
      rw [this]
      exact ⟨v, by simp [valV], h1⟩
    · have e1 : dget ((kD kk, d) :: r) (kD k) = dget r (kD k) := by
        unfold dget
        rw [List.find?_cons_of_neg (by simp [e, q])]
      have e2 : valV ((kk, v) :: t) k = valV t k := by
        simp [valV, q]
      rw [e1, e2]
      exact ih
end
end DL

end
section
namespace DL
open PySem PySem.Spec PyProof.Rows L2
variable [TB]
section
variable {X : Cx} {G : Tx} {W : WX} {C : DCtx} {a b c e : Expr} {es : List Expr} {ga gb gc : Env → Out D} {gs : Env → Out (List D)} {pos : Pos}
/-! ### dicts with ints and texts as keys: d[k], k in d -/
def dgf (d k : D) : Option D := match d, k with
  | .dic kvs, .int i => dget kvs (.int i)
  | .dic kvs, .str x => dget kvs (.str x)
  | _, _ => none
def dhf (d k : D) : Option Bool := match d, k with
  | .dic kvs, .int i => some (dget kvs (.int i)).isSome
  | .dic kvs, .str x => some (dget kvs (.str x)).isSome
  | _, _ => none
theorem dgf_inv {d k r : D} (e : dgf d k = some r) : ∃ kvs kk, d = .dic kvs ∧ k = kD kk ∧ dget kvs (kD kk) = some r := by
  unfold dgf at e
  split at e
  · rename_i kvs i; exact ⟨kvs, .inl i, rfl, rfl, e⟩
  · rename_i kvs x; exact ⟨kvs, .inr x, rfl, rfl, e⟩
  · cases e
theorem dhf_inv {d k : D} {r : Bool} (e : dhf d k = some r) : ∃ kvs kk, d = .dic kvs ∧ k = kD kk ∧ r = (dget kvs (kD kk)).isSome := by
  unfold dhf at e
  split at e
  · rename_i kvs i; cases e; exact ⟨kvs, .inl i, rfl, rfl, rfl⟩
  · rename_i kvs x; cases e; exact ⟨kvs, .inr x, rfl, rfl, rfl⟩
  · cases e
theorem den_key {F : Hp} {k : Key} {v : V} (h : Den G F (kD k) v) : v = kV k := by
  cases k with
  | inl i => simp only [kD, Den] at h; rw [h]; rfl
  | inr i => simp only [kD, Den] at h; rw [h]; rfl
theorem de_dget (hu : X.A.units + 1 < cLine) (ha : DE X G W C a ga) (hb : DE X G W C b gb) (hs : NoSl b := by exact fun _ _ => rfl) : DE X G W C (.Subscript a b pos) (fun env => (ga env).bind fun d e => (gb e).bind fun k e => lft (dgf d k) e) :=
  PE_imp (pe_dget hu ha hb hs) fun σ H Q ⟨F, env, rp, h⟩ => ⟨F, env, rp, pst_bind h fun d e1 x H1 F1 g1 r1 q1 => ⟨F1, e1, r1.1, pst_bind q1 fun k e2 y H2 F2 g2 r2 q2 => by
    cases e : dgf d k with
    | none => rw [e] at q2; exact q2.elim
    | some r =>
      rw [e] at q2
      obtain ⟨kvs, kk, rfl, rfl, ek⟩ := dgf_inv e
      have dx := r1.2.gr g2
      simp only [Den] at dx
      obtain ⟨p, ks, rfl, rd, dk⟩ := dx
      have z := denK_get (k := kk) dk
      rw [ek] at z
      obtain ⟨v, e1, e2'⟩ := z
      exact ⟨p, v, rfl, .inl ⟨ks, kk, sub_rd r2.1.sub rd, den_key r2.2, e1.symm⟩, q2 v H2 F2 (.refl F2) ⟨r2.1, e2'⟩⟩⟩⟩
theorem tDIn_read {neg : Bool} {σ : L2.St} {H : Hp} {Q : VK} {F : Hp} {env : Env} (rp : Rep G C F H σ env) (h : pst (RlE G C σ) (exW G W C σ) Q F ((gb env).bind fun k e => (ga e).bind fun d e => lft ((dhf d k).map fun z => .bl (if neg then !z else z)) e)) :
    (dE G W C gb) σ H fun y H1 => (dE G W C ga) σ H1 fun x H2 => ∃ a o, x = .ref a ∧ DGet H2 a y o ∧ Q (.bl (if neg then !o.isSome else o.isSome)) H2 :=
  ⟨F, env, rp, pst_bind h fun k e1 y H1 F1 g1 r1 q1 => ⟨F1, e1, r1.1, pst_bind q1 fun d e2 x H2 F2 g2 r2 q2 => by
    cases e : dhf d k with
    | none => rw [e] at q2; exact q2.elim
    | some r =>
      rw [e] at q2
      obtain ⟨kvs, kk, rfl, rfl, rfl⟩ := dhf_inv e
      have dx := r2.2
      simp only [Den] at dx
      obtain ⟨p, ks, rfl, rd, dk⟩ := dx
      have z := denK_get (k := kk) dk
      refine ⟨p, valV ks kk, rfl, .inl ⟨ks, kk, sub_rd r2.1.sub rd, den_key r1.2, rfl⟩, ?_⟩
      have eo : (valV ks kk).isSome = (dget kvs (kD kk)).isSome := by
        cases ed : dget kvs (kD kk) with
        | none => rw [ed] at z; rw [z]; rfl
        | some d =>
          rw [ed] at z
          obtain ⟨v, z1, _⟩ := z
          rw [z1]; rfl
      rw [eo]
      exact q2 _ H2 F2 (.refl F2) ⟨r2.1, by simp [Den]⟩⟩⟩
def dinG (neg : Bool) (gb ga : Env → Out D) (env : Env) : Out D := (gb env).bind fun k e => (ga e).bind fun d e => lft ((dhf d k).map fun z => .bl (if neg then !z else z)) e
theorem de_din (hu : X.A.units + 1 < cLine) (hb : DE X G W C b gb) (ha : DE X G W C a ga) (hm : behindInMarks .In a = false := by first | exact nobehind _ (by decide) (by decide) | rfl) : DE X G W C (.Compare b [.In] [a] pos) (dinG false gb ga) :=
  PE_imp (pe_cmp (pc_din hu hb ha) hm) fun σ H Q ⟨F, env, rp, h⟩ => tDIn_read (neg := false) rp h
theorem de_dnotin (hu : X.A.units + 1 < cLine) (hb : DE X G W C b gb) (ha : DE X G W C a ga) (hm : behindInMarks .NotIn a = false := by first | exact nobehind _ (by decide) (by decide) | rfl) : DE X G W C (.Compare b [.NotIn] [a] pos) (dinG true gb ga) :=
  PE_imp (pe_cmp (pc_dnotin hu hb ha) hm) fun σ H Q ⟨F, env, rp, h⟩ => tDIn_read (neg := true) rp h
theorem tB_read {t : TE} {σ : L2.St} {H : Hp} {Q : Bool → Hp → Prop} {F : Hp} {env : Env} {g : Env → Out D} (h : pst (RlT G C σ) (exW G W C σ) Q F ((g env).bind fun d e => lft (asB d) e))
    (ht : ∀ Q', pst (RlE G C σ) (exW G W C σ) Q' F (g env) → t σ H Q') : (tB t) σ H Q :=
  ht _ (pst_bind h fun d e1 x H1 F1 g1 r1 q1 => by
    cases d with
    | bl k =>
      have z := r1.2
      simp only [Den] at z
      exact ⟨k, z, q1 k H1 F1 (.refl F1) ⟨r1.1, rfl⟩⟩
    | _ => exact q1.elim)
theorem dt_din (hu : X.A.units + 1 < cLine) (hb : DE X G W C b gb) (ha : DE X G W C a ga) (hm : behindInMarks .In a = false := by first | exact nobehind _ (by decide) (by decide) | rfl) : DT X G W C (.Compare b [.In] [a] pos) (fun env => (dinG false gb ga env).bind fun d e => lft (asB d) e) :=
  PT_imp (pt_cmp (pc_din hu hb ha) hm) fun σ H Q ⟨F, env, rp, h⟩ => tB_read (g := dinG false gb ga) h fun Q' q => tDIn_read (neg := false) rp q
theorem dt_dnotin (hu : X.A.units + 1 < cLine) (hb : DE X G W C b gb) (ha : DE X G W C a ga) (hm : behindInMarks .NotIn a = false := by first | exact nobehind _ (by decide) (by decide) | rfl) : DT X G W C (.Compare b [.NotIn] [a] pos) (fun env => (dinG true gb ga env).bind fun d e => lft (asB d) e) :=
  PT_imp (pt_cmp (pc_dnotin hu hb ha) hm) fun σ H Q ⟨F, env, rp, h⟩ => tB_read (g := dinG true gb ga) h fun Q' q => tDIn_read (neg := true) rp q
/-! ### {k: v, ..} -/
theorem do_dnew : DO X G W C (.Dict [] [] pos) (fun env => .ok (.dic []) env) := PE_imp pe_dnewK fun σ H Q ⟨F, env, rp, h⟩ => fun p hp => h _ _ F (.refl F) (rp.newO hp (by
  simp only [Own]
  refine ⟨p, [], rfl, rfl, ?_, upd_same, by simp [DenK]⟩
  cases e : F p with
  | none => rfl
  | some u => rw [rp.sub p u e] at hp; cases hp))
/-- the pairs, keys and values frozen -/
structure DPps (X : Cx) (G : Tx) (W : WX) (C : DCtx) (pos : Pos) (keys : List (Option Expr)) (values : List Expr) (g : Env → Out (List (D × D))) : Prop where
  ex : ∃ trs, PPs X pos keys values trs ∧ ∀ C', C'.pv = C.pv → ∀ σ H Q, (∃ F env, Rep G C' F H σ env ∧ pst (fun ps F' H' e vs => Rep G C' F' H' σ e ∧ DenL G F' (ps.map (·.1)) (vs.map (·.1)) ∧ DenL G F' (ps.map (·.2)) (vs.map (·.2))) (exW G W C' σ) Q F (g env)) → tPairs trs σ H Q
theorem dpps_nil : DPps X G W C pos [] [] (fun env => .ok [] env) := ⟨[], pps_nil, fun C' _ σ H Q ⟨F, env, rp, h⟩ => h [] H F (.refl F) ⟨rp, by simp [DenL], by simp [DenL]⟩⟩
theorem dpps_cons {keys : List (Option Expr)} {values : List Expr} {g : Env → Out (List (D × D))} (ha : ∀ C', C'.pv = C.pv → DE X G W C' a ga) (hb : ∀ C', C'.pv = C.pv → DE X G W C' b gb) (hr : DPps X G W C pos keys values g) :
    DPps X G W C pos (some a :: keys) (b :: values) (fun env => (ga env).bind fun k e => (gb e).bind fun d e => (g e).bind fun r e => .ok ((k, d) :: r) e) := by
  obtain ⟨trs, hp, k⟩ := hr.ex
  refine ⟨(_, _) :: trs, pps_cons (tk := fun σ H Q => ∃ C', C'.pv = C.pv ∧ dE G W C' ga σ H Q) (tv := fun σ H Q => ∃ C', C'.pv = C.pv ∧ dE G W C' gb σ H Q) ⟨fun pins s σ H Q I ⟨C', hC, w⟩ => (ha C' hC).run pins s σ H Q I w⟩ ⟨fun pins s σ H Q I ⟨C', hC, w⟩ => (hb C' hC).run pins s σ H Q I w⟩ hp, fun C' hC σ H Q ⟨F, env, rp, h⟩ => ?_⟩
  refine ⟨C', hC, F, env, rp, pst_bind h fun kd e1 x H1 F1 g1 r1 q1 => ⟨C', hC, F1, e1, r1.1, pst_bind q1 fun vd e2 y H2 F2 g2 r2 q2 => k C' hC σ H2 _ ⟨F2, e2, r2.1, pst_bind q2 fun ps e3 vs H3 F3 g3 r3 q3 => ?_⟩⟩⟩
  refine q3 _ H3 F3 (.refl F3) ⟨r3.1, ?_, ?_⟩
  · simp only [List.map_cons, DenL]; exact ⟨x, _, rfl, (r1.2.gr g2).gr g3, r3.2.1⟩
  · simp only [List.map_cons, DenL]; exact ⟨y, _, rfl, r2.2.gr g3, r3.2.2⟩
/-- a display's keys: ints and texts, all different -/
def keysD : List (D × D) → Option (List Key)
  | [] => some []
  | (.int i, _) :: r => (keysD r).map (.inl i :: ·)
  | (.str x, _) :: r => (keysD r).map (.inr x :: ·)
  | _ => none
theorem keysD_ok {F : Hp} : ∀ {ps : List (D × D)} {vs : List (V × V)} {ks : List Key}, keysD ps = some ks → DenL G F (ps.map (·.1)) (vs.map (·.1)) → DenL G F (ps.map (·.2)) (vs.map (·.2)) → ∃ kvs : List (Key × V), vs = kvs.map (fun kv => (kV kv.1, kv.2)) ∧ kvs.map (·.1) = ks ∧ DenK G F ps kvs
  | [], vs, ks, e, h1, h2 => by
    simp only [List.map_nil, DenL] at h1
    cases vs with
    | nil => simp only [keysD, Option.some.injEq] at e; exact ⟨[], rfl, by rw [← e]; rfl, by simp [DenK]⟩
    | cons _ _ => cases h1
  | (kd, vd) :: r, vs, ks, e, h1, h2 => by
    simp only [List.map_cons, DenL] at h1 h2
    obtain ⟨x, xs, e1, d1, l1⟩ := h1
    obtain ⟨y, ys, e2, d2, l2⟩ := h2
    cases vs with
    | nil => cases e1
    | cons v vs =>
      simp only [List.map_cons, List.cons.injEq] at e1 e2
      obtain ⟨e1, rfl⟩ := e1
      obtain ⟨e2, rfl⟩ := e2
      have go : ∀ (kk : Key), kd = kD kk → ∀ ks', keysD r = some ks' → ks = kk :: ks' → ∃ kvs : List (Key × V), v :: vs = kvs.map (fun kv => (kV kv.1, kv.2)) ∧ kvs.map (·.1) = ks ∧ DenK G F ((kd, vd) :: r) kvs := fun kk ek ks' er eks => by
        obtain ⟨kvs, f1, f2, f3⟩ := keysD_ok er l1 l2
        subst ek
        refine ⟨(kk, y) :: kvs, ?_, by simp [f2, eks], ?_⟩
        · rw [f1]
          have : v = (kV kk, y) := by rw [← den_key d1, ← e1, ← e2]
          simp [this]
        · simp only [DenK]
          exact ⟨kk, y, kvs, rfl, rfl, d2, f3⟩
      cases kd with
      | int i =>
        simp only [keysD] at e
        cases q : keysD r with
        | none => rw [q] at e; cases e
        | some ks' => rw [q] at e; cases e; exact go (.inl i) rfl ks' q rfl
      | str i =>
        simp only [keysD] at e
        cases q : keysD r with
        | none => rw [q] at e; cases e
        | some ks' => rw [q] at e; cases e; exact go (.inr i) rfl ks' q rfl
      | _ => simp [keysD] at e
theorem mergeK_nodup : ∀ {more acc : List (Key × V)}, ((acc ++ more).map (·.1)).Nodup → mergeK acc more = acc ++ more
  | [], acc, _ => by simp [mergeK]
  | (k, v) :: r, acc, h => by
    have e : putK acc k v = acc ++ [(k, v)] := by
      unfold putK
      rw [if_neg]
      intro z
      rw [List.any_eq_true] at z
      obtain ⟨p, hp, q⟩ := z
      have q : p.1 = k := of_decide_eq_true q
      rw [List.map_append, List.nodup_append] at h
      exact h.2.2 p.1 (List.mem_map.mpr ⟨p, hp, rfl⟩) k (by simp) q
    show mergeK (putK acc k v) r = _
    rw [e, mergeK_nodup (by simpa using h)]
    simp
def dispf (ps : List (D × D)) : Option T := match keysD ps with
  | some ks => if ks.Nodup ∧ ps.length ≤ 15 then some (.dic ps) else none
  | none => none
theorem do_disp {keys : List (Option Expr)} {values : List Expr} {g : Env → Out (List (D × D))} (h : DPps X G W C pos keys values g) (hall : keys.all (·.isSome) = true := by rfl) (hl : keys.length = values.length := by rfl) (h0 : keys ≠ [] := by intro z; cases z) (h15 : keys.length ≤ 15 := by decide) :
    DO X G W C (.Dict keys values pos) (fun env => (g env).bind fun ps e => lft (dispf ps) e) := by
  obtain ⟨trs, hp, k⟩ := h.ex
  refine PE_imp (pe_disp hp hall hl h0 h15) fun σ H Q ⟨F, env, rp, h⟩ => fun p hp => ?_
  have rD : RepV G C F (upd H p (.dK [])) σ env (.dic []) (.ref p) := rp.newO hp (by
    simp only [Own]
    refine ⟨p, [], rfl, rfl, ?_, upd_same, by simp [DenK]⟩
    cases e : F p with
    | none => rfl
    | some u => rw [rp.sub p u e] at hp; cases hp)
  obtain ⟨C', pvC, _, rC, back⟩ := rD.hold
  refine k C' pvC σ _ _ ⟨F, env, rC, ?_⟩
  replace h : pst (RlO G C σ) (exW G W C σ) Q F ((g env).bind fun ps e => lft (dispf ps) e) := h
  cases eg : g env with
  | fail => rw [eg] at h; exact h
  | exc x e =>
    rw [eg] at h
    exact fun cls dd H' F' g1 r dx => h cls dd H' F' g1 (back r).rep dx
  | ok ps e =>
    rw [eg] at h
    rintro vs H1 F1 g1 ⟨r1, d1, d2⟩
    have h : pst (RlO G C σ) (exW G W C σ) Q F (lft (dispf ps) e) := h
    unfold dispf at h
    cases ek : keysD ps with
    | none => rw [ek] at h; exact h.elim
    | some ks =>
      rw [ek] at h
      simp only at h
      split at h
      · rename_i hc
        obtain ⟨kvs, f1, f2, f3⟩ := keysD_ok ek d1 d2
        have rb := back r1
        have ex : H1 p = some (.dK []) := by
          obtain ⟨fp, A, _, o, _⟩ := rb
          simp only [Own] at o
          obtain ⟨a, ks0, ea, _, _, e1, e2⟩ := o
          cases ea
          simp only [DenK] at e2
          rw [e1, e2]
        have lk : kvs.length = ps.length := by
          have := DenK.len f3
          exact this
        refine ⟨ex, kvs, f1, by rw [lk]; exact hc.2, ?_⟩
        rw [mergeK_nodup (by simpa [f2] using hc.1)]
        refine h _ _ F1 g1 (rb.change fun A oA ndA fA => ?_)
        simp only [Own] at oA
        obtain ⟨a, ks0, ea, rfl, fa, e1, e2⟩ := oA
        cases ea
        obtain ⟨s, sub⟩ := upd_step (o := .dK ([] ++ kvs)) fa rb.rep.sub (fun ps z => by rw [e1] at z; cases z)
        exact ⟨[p], fun _ z => z, s, sub, [p], by simp only [Own]; exact ⟨p, _, rfl, rfl, fa, upd_same, by simpa using f3⟩, by simp, fun a ha => .inl ha⟩
      · exact h.elim
end
/-! ### [e for .. for ..] -/
section
variable {X : Cx} {G : Tx} {W : WX} {C : DCtx} {vs vs1 : List Nat} {gi gi1 : Env → Out (List D)} {gt gt1 : D → Env → Option Env} {gc gc1 : Env → Out Bool} {ge : Env → Out D}
theorem walk_it {J : It} {n : Nat} {Gp : Hp → Prop} {Y : Nat → Hp → V → Hp → Prop} {H1 : Hp} {Qd : Hp → Prop} (w : Walk J n Gp Y) (Pv : Nat → Hp → Prop) {Body : (Hp → Prop) → V → Hp → Prop} (h0 : Pv 0 H1) (hG : ∀ i H, i ≤ n → Pv i H → Gp H)
    (hs : ∀ i x H H', i < n → Pv i H → Y i H x H' → Body (Pv (i + 1)) x H') (hd : ∀ H, Pv n H → Qd H) :
    ∃ W : Nat → Nat → Hp → Prop, (∃ m, W 0 m H1) ∧ ∀ i m H, W i m H → (J.stop i H ∧ Qd H) ∨ (J.go i H ∧ ∃ Nx : Hp → Prop, (∀ H', Nx H' → ∃ m', m' < m ∧ W (i + 1) m' H') ∧ ∀ x H', J.yld i H x H' → Body Nx x H') := by
  refine ⟨fun i m H => m = n - i ∧ i ≤ n ∧ Pv i H, ⟨n, by simp, Nat.zero_le _, h0⟩, ?_⟩
  rintro i m H ⟨rfl, hi, p⟩
  have q := hG i H hi p
  by_cases hlt : i < n
  · exact .inr ⟨w.goes i H hlt q, Pv (i + 1), fun H' p' => ⟨n - (i + 1), by omega, rfl, hlt, p'⟩, fun x H' y => hs i x H H' hlt p (w.yields i H x H' hlt q y)⟩
  · have e : i = n := by omega
    subst e
    exact .inl ⟨w.stops H q, hd H p⟩
def compD2 (gt : D → Env → Option Env) (gc : Env → Out Bool) (gi1 : Env → Out (List D)) (gt1 : D → Env → Option Env) (gc1 : Env → Out Bool) (ge : Env → Out D) (vs vs1 : List Nat) : List D → Env → List D → Out (List D)
  | [], env, acc => .ok acc env
  | d :: r, env, acc => match gt d env with
    | none => .fail
    | some e1 => match gc e1 with
      | .ok true e2 => (match gi1 e2 with
        | .ok ds1 e3 => (match compD gt1 gc1 ge vs1 ds1 (wipeE e3 vs1) acc with
          | .ok acc' e4 => compD2 gt gc gi1 gt1 gc1 ge vs vs1 r (wipeE e4 vs) acc'
          | _ => .fail)
        | _ => .fail)
      | .ok false e2 => compD2 gt gc gi1 gt1 gc1 ge vs vs1 r (wipeE e2 vs) acc
      | _ => .fail
def compG2 (gi : Env → Out (List D)) (gt : D → Env → Option Env) (gc : Env → Out Bool) (gi1 : Env → Out (List D)) (gt1 : D → Env → Option Env) (gc1 : Env → Out Bool) (ge : Env → Out D) (vs vs1 : List Nat) (env : Env) : Out T := (gi env).bind fun ds e0 => match compD2 gt gc gi1 gt1 gc1 ge vs vs1 ds (wipeE e0 vs) [] with
  | .ok acc e' => .ok (.lst acc) (restE e0 e' vs)
  | _ => .fail
theorem wipe_wipe {σ : L2.St} (h : ∀ i ∈ vs1, i ∈ vs) : L2.wipe (L2.wipe σ vs1) vs = L2.wipe σ vs := wipe_eq (wipe_length _ _) fun j hj => by
  rw [wipe_at fun z => hj (h j z), wipe_at hj]
theorem lc2_read (hv : vs.Nodup) (hv1 : ∀ i ∈ vs1, i ∈ vs) (hp : ∀ i ∈ vs, ∀ w, (i, w) ∉ C.pv) {σ : L2.St} {H : Hp} {Q : VK} {F : Hp} {env : Env} (rp : Rep G C F H σ env) (h : pst (RlO G C σ) (exW G W C σ) Q F (compG2 gi gt gc gi1 gt1 gc1 ge vs vs1 env)) :
    tLc2 (dI G W C gi) (exG G C vs gt) (exT G C gc) (exI G C gi1) (exG G C vs1 gt1) (exT G C gc1) (exE G C ge) vs vs1 σ H Q := by
  refine ⟨F, env, rp, pst_bind h fun ds e0 J H1 F1 g1 r1 h1 => ?_⟩
  obtain ⟨r1, Gp, Y, w, hG, hY⟩ := r1
  have hp1 : ∀ i ∈ vs1, ∀ w, (i, w) ∉ C.pv := fun i hi => hp i (hv1 i hi)
  intro Dd hD
  cases ec : compD2 gt gc gi1 gt1 gc1 ge vs vs1 ds (wipeE e0 vs) [] with
  | fail => rw [ec] at h1; exact h1.elim
  | exc x e => rw [ec] at h1; exact h1.elim
  | ok accF eF =>
    rw [ec] at h1
    have rw0 : Rep G C F1 H1 (L2.wipe σ vs) (wipeE e0 vs) := Rep.wipe vs r1 hp
    have rD : RepV G C F1 (upd H1 Dd (.lst [])) (L2.wipe σ vs) (wipeE e0 vs) (.lst []) (.ref Dd) := rw0.newO hD (newO_lst r1.sub hD (by simp [DenL]))
    refine walk_it w (fun i H => ∃ F env acc, Gr F1 F ∧ RepV G C F H (L2.wipe σ vs) env (.lst acc) (.ref Dd) ∧ compD2 gt gc gi1 gt1 gc1 ge vs vs1 (ds.drop i) env acc = .ok accF eF) ⟨F1, _, [], .refl F1, rD, by simpa using ec⟩ (fun i H _ ⟨F, env, acc, g, r, _⟩ => hG F H g r.rep.sub) ?_ ?_
    · rintro i x H2 H2' hi ⟨F2, env2, acc, g2, r2, q⟩ y
      have ed : ds.drop i = ds[i] :: ds.drop (i + 1) := List.drop_eq_getElem_cons hi
      obtain ⟨F3, l, dx⟩ := hY i ds[i] F2 H2 x H2' g2 r2.rep.sub (by simp [hi]) y
      rw [ed] at q
      simp only [compD2] at q
      obtain ⟨C', pvC, _, rC, back⟩ := r2.hold
      cases eg : gt ds[i] env2 with
      | none => rw [eg] at q; cases q
      | some e1 =>
        rw [eg] at q
        simp only at q
        refine ⟨C', pvC, F3, ds[i], env2, e1, rC.lay l, dx, eg, fun σ4 H4 F4 g4 l4 r4 n4 s4 => ?_⟩
        have hw : L2.wipe σ4 vs = L2.wipe σ vs := wipe_eq (by rw [n4, wipe_length]) s4
        refine ⟨hw, C', pvC, F4, e1, r4, ?_⟩
        cases ecc : gc e1 with
        | fail => rw [ecc] at q; cases q
        | exc x e => rw [ecc] at q; cases q
        | ok b e2 =>
          rw [ecc] at q
          cases b with
          | false =>
            simp only at q
            rintro b' H5 F5 g5 ⟨r5, rfl⟩
            refine ⟨F5, _, acc, ((g2.trans l.gr).trans g4).trans g5, ?_, q⟩
            rw [← hw]
            exact RepV.wipe vs (back r5) hp
          | true =>
            simp only at q
            rintro b' H5 F5 g5 ⟨r5, rfl⟩
            rw [if_pos rfl]
            refine ⟨C', pvC, F5, e2, r5, ?_⟩
            cases ei : gi1 e2 with
            | fail => rw [ei] at q; cases q
            | exc x e => rw [ei] at q; cases q
            | ok ds1 e3 =>
              rw [ei] at q
              simp only at q
              rintro J1 H6 F6 g6 ⟨r6, Gp1, Y1, w1, hG1, hY1⟩
              cases em : compD gt1 gc1 ge vs1 ds1 (wipeE e3 vs1) acc with
              | fail => rw [em] at q; cases q
              | exc x e => rw [em] at q; cases q
              | ok acc' e4 =>
                rw [em] at q
                simp only at q
                have r7 : RepV G C F6 H6 (L2.wipe σ4 vs1) (wipeE e3 vs1) (.lst acc) (.ref Dd) := RepV.wipe vs1 (back r6) hp1
                refine walk_it w1 (fun j H => ∃ F env acc0, Gr F6 F ∧ RepV G C F H (L2.wipe σ4 vs1) env (.lst acc0) (.ref Dd) ∧ compD gt1 gc1 ge vs1 (ds1.drop j) env acc0 = .ok acc' e4) ⟨F6, _, acc, .refl F6, r7, by simpa using em⟩ (fun j H _ ⟨F, env, acc0, g, r, _⟩ => hG1 F H g r.rep.sub) ?_ ?_
                · rintro j x1 K1 K1' hj ⟨F7, env7, acc7, g7, r7, q7⟩ y1
                  have ed1 : ds1.drop j = ds1[j] :: ds1.drop (j + 1) := List.drop_eq_getElem_cons hj
                  obtain ⟨F8, l8, dx8⟩ := hY1 j ds1[j] F7 K1 x1 K1' g7 r7.rep.sub (by simp [hj]) y1
                  rw [ed1] at q7
                  simp only [compD] at q7
                  obtain ⟨C1, pvC1, _, rC1, back1⟩ := r7.hold
                  cases eg1 : gt1 ds1[j] env7 with
                  | none => rw [eg1] at q7; cases q7
                  | some f1 =>
                    rw [eg1] at q7
                    simp only at q7
                    refine ⟨C1, pvC1, F8, ds1[j], env7, f1, rC1.lay l8, dx8, eg1, fun σ9 H9 F9 g9 l9 r9 n9 s9 => ?_⟩
                    have hw1 : L2.wipe σ9 vs1 = L2.wipe σ4 vs1 := wipe_eq (by rw [n9, wipe_length]) s9
                    refine ⟨hw1, C1, pvC1, F9, f1, r9, ?_⟩
                    have wipeR : ∀ {F' H' : Hp} {env' : Env} {acc' : List D}, RepV G C F' H' σ9 env' (.lst acc') (.ref Dd) → RepV G C F' H' (L2.wipe σ4 vs1) (wipeE env' vs1) (.lst acc') (.ref Dd) := fun {F' H' env' acc'} r => by
                      rw [← hw1]
                      exact RepV.wipe vs1 r hp1
                    cases ecc1 : gc1 f1 with
                    | fail => rw [ecc1] at q7; cases q7
                    | exc x e => rw [ecc1] at q7; cases q7
                    | ok b1 f2 =>
                      rw [ecc1] at q7
                      cases b1 with
                      | false =>
                        simp only at q7
                        rintro b' H5 F5 g5 ⟨r5, rfl⟩
                        exact ⟨F5, _, acc7, ((g7.trans l8.gr).trans g9).trans g5, wipeR (back1 r5), q7⟩
                      | true =>
                        simp only at q7
                        rintro b' H5 F5 g5 ⟨r5, rfl⟩
                        rw [if_pos rfl]
                        refine ⟨C1, pvC1, F5, f2, r5, ?_⟩
                        cases ee : ge f2 with
                        | fail => rw [ee] at q7; cases q7
                        | exc x e => rw [ee] at q7; cases q7
                        | ok d f3 =>
                          rw [ee] at q7
                          simp only at q7
                          split at q7
                          · rename_i hl
                            rintro z H6 F6 g6 ⟨r6, d6⟩
                            obtain ⟨ws, k1, k2, k3⟩ := (back1 r6).push d6
                            exact ⟨ws, k1, by rw [k2]; exact hl, F6, _, acc7 ++ [d], (((g7.trans l8.gr).trans g9).trans g5).trans g6, wipeR k3, q7⟩
                          · cases q7
                · rintro K ⟨F7, env7, acc7, g7, r7, q7⟩
                  rw [List.drop_length] at q7
                  simp only [compD] at q7
                  cases q7
                  refine ⟨F7, _, acc', (((((g2.trans l.gr).trans g4).trans g5).trans g6).trans g7), ?_, q⟩
                  have z := RepV.wipe vs r7 hp
                  rw [wipe_wipe hv1, hw] at z
                  exact z
    · rintro H2 ⟨F2, env2, acc, g2, r2, q⟩
      rw [List.drop_length] at q
      simp only [compD2] at q
      cases q
      exact h1 _ H2 F2 g2 (RepV.rest r1 g2 vs hv r2)
variable {elt tg iter tg1 iter1 : Expr} {ifs ifs1 : List Expr} {scope : Scope} {own : List (Str × Nat)} {pos spos : Pos}
theorem do_lc2 (hc : X.calm = true) (hN : X.N.Nodup) (hp : ∀ i ∈ own.map (·.2), ∀ w, (i, w) ∉ C.pv) (hv : (own.map (·.2)).Nodup) (hv1 : ∀ i ∈ vs1, i ∈ own.map (·.2)) (hi : DI X G W C tg iter gi) (ok : BlkOk X.N X.env.scope scope own)
    (hg : ∀ (s : Shared) (H : Hp) (Cc : Addr) (cl : List (Str × Addr)) (fp : List Addr) (C' : DCtx), C'.pv = C.pv → DG (X.blk s H scope (compEnvC scope cl Cc X.env) fp) G C' tg (own.map (·.2)) gt)
    (ht : ∀ (s : Shared) (H : Hp) (Cc : Addr) (cl : List (Str × Addr)) (fp : List Addr), DTs (X.blk s H scope (compEnvC scope cl Cc X.env) fp) G C ifs gc)
    (hi1 : ∀ (s : Shared) (H : Hp) (Cc : Addr) (cl : List (Str × Addr)) (fp : List Addr) (C' : DCtx), C'.pv = C.pv → DI (X.blk s H scope (compEnvC scope cl Cc X.env) fp) G W0 C' tg1 iter1 gi1)
    (hg1 : ∀ (s : Shared) (H : Hp) (Cc : Addr) (cl : List (Str × Addr)) (fp : List Addr) (C' : DCtx), C'.pv = C.pv → DG (X.blk s H scope (compEnvC scope cl Cc X.env) fp) G C' tg1 vs1 gt1)
    (ht1 : ∀ (s : Shared) (H : Hp) (Cc : Addr) (cl : List (Str × Addr)) (fp : List Addr), DTs (X.blk s H scope (compEnvC scope cl Cc X.env) fp) G C ifs1 gc1)
    (he : ∀ (s : Shared) (H : Hp) (Cc : Addr) (cl : List (Str × Addr)) (fp : List Addr) (C' : DCtx), C'.pv = C.pv → DE (X.blk s H scope (compEnvC scope cl Cc X.env) fp) G W0 C' elt ge)
    (hs : ∀ x, foldedSetIterable iter X.env x = pure x := by intro _; rfl) (hs1 : ∀ env x, foldedSetIterable iter1 env x = pure x := by intro _ _; rfl) :
    DO X G W C (.ListComp elt [⟨tg, iter, ifs, 0⟩, ⟨tg1, iter1, ifs1, 0⟩] scope pos) (compG2 gi gt gc gi1 gt1 gc1 ge (own.map (·.2)) vs1) :=
  PE_imp (pe_lc2 hc hN hi ok hv1 (fun s H Cc cl fp => pg_ex (hg s H Cc cl fp)) ht (fun s H Cc cl fp => pi_ex (hi1 s H Cc cl fp)) (fun s H Cc cl fp => pg_ex (hg1 s H Cc cl fp)) ht1 (fun s H Cc cl fp => pe_ex (he s H Cc cl fp)) hs hs1) fun σ H Q ⟨F, env, r, q⟩ => lc2_read hv hv1 hp r q
theorem ds_setLc2 {i : Nat} {y : Str} {py : Pos} (hpi : ∀ w, (i, w) ∉ C.pv) (hc : X.calm = true) (hN : X.N.Nodup) (hy : X.N[i]? = some y) (hyl : X.env.scope.names.lookup y = some .local)
    (hsw : swapsWith (.ListComp elt [⟨tg, iter, ifs, 0⟩, ⟨tg1, iter1, ifs1, 0⟩] scope pos) (some (.Name y py)) spos.line X.env = pure true) (hp : ∀ i ∈ own.map (·.2), ∀ w, (i, w) ∉ C.pv) (hv : (own.map (·.2)).Nodup) (hv1 : ∀ i ∈ vs1, i ∈ own.map (·.2)) (hi : DI X G W C tg iter gi) (ok : BlkOk X.N X.env.scope scope own)
    (hg : ∀ (s : Shared) (H : Hp) (Cc : Addr) (cl : List (Str × Addr)) (fp : List Addr) (C' : DCtx), C'.pv = C.pv → DG (X.blk s H scope (compEnvC scope cl Cc X.env) fp) G C' tg (own.map (·.2)) gt)
    (ht : ∀ (s : Shared) (H : Hp) (Cc : Addr) (cl : List (Str × Addr)) (fp : List Addr), DTs (X.blk s H scope (compEnvC scope cl Cc X.env) fp) G C ifs gc)
    (hi1 : ∀ (s : Shared) (H : Hp) (Cc : Addr) (cl : List (Str × Addr)) (fp : List Addr) (C' : DCtx), C'.pv = C.pv → DI (X.blk s H scope (compEnvC scope cl Cc X.env) fp) G W0 C' tg1 iter1 gi1)
    (hg1 : ∀ (s : Shared) (H : Hp) (Cc : Addr) (cl : List (Str × Addr)) (fp : List Addr) (C' : DCtx), C'.pv = C.pv → DG (X.blk s H scope (compEnvC scope cl Cc X.env) fp) G C' tg1 vs1 gt1)
    (ht1 : ∀ (s : Shared) (H : Hp) (Cc : Addr) (cl : List (Str × Addr)) (fp : List Addr), DTs (X.blk s H scope (compEnvC scope cl Cc X.env) fp) G C ifs1 gc1)
    (he : ∀ (s : Shared) (H : Hp) (Cc : Addr) (cl : List (Str × Addr)) (fp : List Addr) (C' : DCtx), C'.pv = C.pv → DE (X.blk s H scope (compEnvC scope cl Cc X.env) fp) G W0 C' elt ge)
    (hs : ∀ x, foldedSetIterable iter X.env x = pure x := by intro _; rfl) (hs1 : ∀ env x, foldedSetIterable iter1 env x = pure x := by intro _ _; rfl) :
    DS X G W C (.Assign [.Name y py] (.ListComp elt [⟨tg, iter, ifs, 0⟩, ⟨tg1, iter1, ifs1, 0⟩] scope pos) spos) (fun env => (compG2 gi gt gc gi1 gt1 gc1 ge (own.map (·.2)) vs1 env).bind (stv i)) :=
  PS_imp (ps_setLc2 hc hN hy hyl hsw hi ok hv1 (fun s H Cc cl fp => pg_ex (hg s H Cc cl fp)) ht (fun s H Cc cl fp => pi_ex (hi1 s H Cc cl fp)) (fun s H Cc cl fp => pg_ex (hg1 s H Cc cl fp)) ht1 (fun s H Cc cl fp => pe_ex (he s H Cc cl fp)) hs hs1) fun N σ H ⟨F, env, r, q⟩ =>
    lc2_read hv hv1 hp r (pS_bind q fun t e v H1 F1 g1 r1 h1 => h1 (σ.set i (some v)) H1 F1 (.refl F1) (RepV.set r1 hpi))
end
end DL

end
section
namespace DL
open PySem PySem.Spec PyProof.Rows L2
variable [TB]
/-! ### == and != by an own __eq__ -/
section
variable {M : Model} {prog : Program} {w : World} {A : Around} {E : Value → Shared → Prop} {s : Shared} {K : PySem.W.Frag} {x C f : Addr} {ox : Obj} {od : Option Obj} {b tb : Value}
theorem ifBound_objNe {args : List Value} {Q : Option Value → Shared → Prop} (X : K.In s.heap) (I : PySem.W.InstAt s.heap x ox C od) (hs : PySem.W.findIn K (.ref C) "__ne__" = some (some (.builtin "object.__ne__")))
    (h : wpAny M A (call (.builtin "object.__ne__") (.ref x :: args)) (fun v => Q (some v)) E s) : wpAny M A (callSpecialIfBound? (.ref x) "__ne__" args) Q E s := by
  simp only [callSpecialIfBound?, bindSpecialIfBound?]
  refine wpAny_holding (wpAny_bind (wpAny_bind (wpAny_bind (I.type.here ((PySem.W.looks_findIn X hs).here ?_)))))
  refine wpAny_bind (wpAny_askSetting (wpAny_ite ?_))
  have go : wpAny M A (call (.builtin "object.__ne__") ([.ref x] ++ args) >>= fun v => pure (some v)) Q E s := wpAny_bind (wpAny_mono h (fun v s' h' => wpAny_pure h') fun _ _ h' => h')
  split
  · exact wpAny_bind (wpAny_of_eq (F.cmp_object.ne.bind _) (wpAny_pure (by exact go)))
  · exact wpAny_tryCatch (wpAny_bind (wpAny_of_eq (F.cmp_object.ne.bind _) (wpAny_pure (by exact go))))
theorem entry_objNe (hu : A.units < cLine) (X : K.In s.heap) (I : PySem.W.InstAt s.heap x ox C od) (hs : PySem.W.findIn K (.ref C) "__eq__" = some (some (.ref f))) (hf : PySem.W.isFn K (.ref f) = true) {Q : Fin → Shared → Prop}
    (h : wpAny M A (call (.ref f) [.ref x, b]) (fun v s' => ∃ c, v = .bool c ∧ Q (.done (.ret (.bool (!c)))) s') E s) : wpAny M A (Builtin.«object.__ne__» ⟨[.ref x, b], []⟩) Q E s := by
  unfold Builtin.«object.__ne__»
  repeat (first
    | with_reducible refine wpAny_cRoomFor hu ?_
    | (refine wpAny_bind (m := callSpecialIfBound? (.ref x) (Str.ofString "__eq__") [b]) (PySem.W.ifBound_K X I hs hf (wpAny_mono h (fun r s' hr => by
          obtain ⟨c, rfl, hq⟩ := hr
          repeat (first | exact hq | exact wpAny_pure hq | exact wpAny_truthy_bool hq | (refine wpAny_bind (m := truthy (.bool _)) (wpAny_truthy_bool ?_)) | wp_step)) fun _ _ e => e)))
    | wp_step)
theorem ne_K {Q : Value → Shared → Prop} {h₀ : Heap} {L : Addr} {m : Str → Option Value} (hu : A.units + 1 < cLine) (FF : Fr h₀ L s.heap m) (X₀ : K.In h₀) (I : PySem.W.InstAt s.heap x ox C od) (hb : PySem.W.Looks (model prog w) s.heap (typeOf b) tb) (hn : PySem.W.notFirst K C tb = true)
    (hs : PySem.W.findIn K (.ref C) "__eq__" = some (some (.ref f))) (hf : PySem.W.isFn K (.ref f) = true) (hne : PySem.W.findIn K (.ref C) "__ne__" = some (some (.builtin "object.__ne__"))) (hm : PySem.W.mroIn K C (.type "object") = some true)
    (h : wpAny (model prog w) A.in1 (call (.ref f) [.ref x, b]) (fun v s' => ∃ c, v = .bool c ∧ Q (.bool (!c)) s') E s) : wpAny (model prog w) A (richCompare .NotEq (.ref x) b) Q E s := by
  have X := X₀.keeps FF.keep
  have one : wpAny (model prog w) A (tryCompare (.ref x) "__ne__" b) (fun r s' => ∃ v, r = some v ∧ Q v s') E s := by
    unfold tryCompare
    refine wpAny_bind (ifBound_objNe X I hne (wpAny_call (codeAny_call_builtin F.cmp_object.ne.plain F.cmpEntry_ne (PySem.W.check_slot F.cmpKind_ne F.cmpSplit_ne (I.type.andThen (PySem.W.looks_mroIn X hm)) (F.cmpArgs_ne _ _)
      (entry_objNe (A := A.in1) hu X I hs hf (wpAny_mono h (fun v s' hv => ?_) fun _ _ e => e))))))
    obtain ⟨c, rfl, hq⟩ := hv
    exact ⟨c, rfl, wpAny_pure ⟨_, rfl, hq⟩⟩
  unfold richCompare
  simp only [oneThing_ref]
  refine wpAny_holding (wpAny_bind (wpAny_cRoomFor (Nat.lt_of_succ_lt hu) ?_))
  refine wpAny_bind (I.type.here (wpAny_bind (hb.here ?_)))
  split
  · rename_i q
    have e : PySem.W.subIn K tb (.ref C) = some false := by
      rcases Bool.or_eq_true_iff.mp hn with e | e
      · rw [beq_iff_eq.mp e] at q; simp at q
      · exact beq_iff_eq.mp e
    refine wpAny_bind ((PySem.W.looks_subIn X e).here ?_)
    simp only [Bool.false_eq_true, if_false]
    refine wpAny_bind (wpAny_mono one (fun r s' z => ?_) fun _ _ e => e)
    obtain ⟨v, rfl, hq⟩ := z
    exact wpAny_pure hq
  · refine wpAny_bind (wpAny_pure ?_)
    simp only [Bool.false_eq_true, if_false]
    refine wpAny_bind (wpAny_mono one (fun r s' z => ?_) fun _ _ e => e)
    obtain ⟨v, rfl, hq⟩ := z
    exact wpAny_pure hq
end
/-- what the text says of a class with an __eq__ -/
structure EqC (K : PySem.W.Frag) (C C2 : Addr) : Prop where
  ne : PySem.W.findIn K (.ref C) "__ne__" = some (some (.builtin "object.__ne__"))
  mro : PySem.W.mroIn K C (.type "object") = some true
  first : PySem.W.notFirst K C (.ref C2) = true
def rOwn (X : Cx) (neg : Bool) : R2 := fun x y H Q => ∃ a b C dx fs C2 dy gs f fd ps k sp, x = .ref a ∧ y = .ref b ∧ H a = some (.ins C dx fs) ∧ H b = some (.ins C2 dy gs) ∧ EqC X.K C C2 ∧ Meth X.K C "__eq__" f ∧ FnOk X.prog X.w X.K X.mg X.base (L2.CX X.prog X.w) k f fd ps sp ∧ Room (k + 1) X.A ∧ Binds X.K fd ps [] ∧
  sp [.ref a, .ref b] H (fun v H' => ∃ c, v = .bl c ∧ Q (.bl (if neg then !c else c)) H') (fun _ _ _ => False)
theorem op_own {X : Cx} : OpR X (compareOp .Eq) (rOwn X false) := by
  intro pins s σ H x y v u Q I rx ry h
  obtain ⟨a, b, C, dx, fs, C2, dy, gs, f, fd, ps, k, sp, rfl, rfl, ha, hb', T, Me, F, hr, hb, hsp⟩ := h
  cases rx
  cases ry
  show wpAny (model X.prog X.w) X.A (richCompare .Eq (.ref a) (.ref b)) (EP X pins σ Q) X.xe s
  obtain ⟨mA, J, _⟩ := ins_get I.hok ha
  obtain ⟨mB, J', _⟩ := ins_get I.hok hb'
  obtain ⟨od, J, _⟩ := J.look
  obtain ⟨od', J', _⟩ := J'.look
  obtain ⟨m, hF⟩ := I.fr
  refine PySem.W.cmp_K (op := .Eq) (tb := .ref C2) hr.units0 hF I.ok.mod.kin J J'.type T.first Me.at_ Me.fn ?_
  have hl := F.len _ _ _ _ hsp
  have r2 : Vals [V.ref a, V.ref b] [Value.ref a, Value.ref b] := .cons rfl (.cons rfl .nil)
  refine wpAny_call (codeAny_mono (F.run X.A X.stack s H ⟨[.ref a, .ref b], []⟩ [.ref a, .ref b] [.ref a, .ref b] _ _ (hr.mono (Nat.le_succ _)) I.env0 (by
    have := hb s [.ref a, .ref b] I.kIn (by simpa using hl)
    simpa using this) r2 hsp) fun r s' hq => ?_)
  cases r with
  | error e => exact passL pins σ H s e s' I hq
  | ok fl =>
    cases fl with
    | ret w =>
      obtain ⟨z, H', I', rz, ⟨c, ez, q⟩⟩ := I.after hq
      subst ez
      cases rz
      exact ⟨.bl c, H', I', rfl, q⟩
    | next => exact False.elim hq
    | brk => exact False.elim hq
    | cont => exact False.elim hq
theorem op_ownNe {X : Cx} : OpR X (compareOp .NotEq) (rOwn X true) := by
  intro pins s σ H x y v u Q I rx ry h
  obtain ⟨a, b, C, dx, fs, C2, dy, gs, f, fd, ps, k, sp, rfl, rfl, ha, hb', T, Me, F, hr, hb, hsp⟩ := h
  cases rx
  cases ry
  show wpAny (model X.prog X.w) X.A (richCompare .NotEq (.ref a) (.ref b)) (EP X pins σ Q) X.xe s
  obtain ⟨mA, J, _⟩ := ins_get I.hok ha
  obtain ⟨mB, J', _⟩ := ins_get I.hok hb'
  obtain ⟨od, J, _⟩ := J.look
  obtain ⟨od', J', _⟩ := J'.look
  obtain ⟨m, hF⟩ := I.fr
  have hu : X.A.units + 1 < cLine := hr.in1.units0
  refine ne_K (tb := .ref C2) hu hF I.ok.mod.kin J J'.type T.first Me.at_ Me.fn T.ne T.mro ?_
  have hl := F.len _ _ _ _ hsp
  have r2 : Vals [V.ref a, V.ref b] [Value.ref a, Value.ref b] := .cons rfl (.cons rfl .nil)
  refine wpAny_call (codeAny_mono (F.run X.A.in1 X.stack s H ⟨[.ref a, .ref b], []⟩ [.ref a, .ref b] [.ref a, .ref b] _ _ hr.in1 I.env0.in1 (by
    have := hb s [.ref a, .ref b] I.kIn (by simpa using hl)
    simpa using this) r2 hsp) fun r s' hq => ?_)
  cases r with
  | error e => exact passL pins σ H s e s' I hq
  | ok fl =>
    cases fl with
    | ret w =>
      obtain ⟨z, H', I', rz, ⟨c, ez, q⟩⟩ := I.after hq
      subst ez
      cases rz
      exact ⟨c, rfl, .bl (!c), H', I', rfl, q⟩
    | next => exact False.elim hq
    | brk => exact False.elim hq
    | cont => exact False.elim hq
def owf (ms : Nat → Option (List T → FO)) (neg : Bool) (a b : D) : Option D := match a, b with
  | .ins c _, .ins _ _ => (match ms c with
    | some sem => (match sem [.fz a, .fz b] with
      | .ok (.fz (.bl k)) _ => some (.bl (if neg then !k else k))
      | _ => none)
    | none => none)
  | _, _ => none
section
variable {X : Cx} {G : Tx}
theorem opD_own {ms : Nat → Option (List T → FO)} {neg : Bool} {k : Nat} (hK : X.K = G.K) (hr : Room (k + 1) X.A) (hm : ∀ c sem, ms c = some sem → HasM X.prog X.w G X.mg X.base c "__eq__" k 2 sem) (hc : ∀ c sem, ms c = some sem → ∀ C c2 C2, G.ct c = some C → G.ct c2 = some C2 → EqC G.K C C2) : OpD G (rOwn X neg) (owf ms neg) := fun F H da db d x y Q s dx dy e kq => by
  unfold owf at e
  split at e
  · rename_i c fs c2 fs2
    cases em : ms c with
    | none => rw [em] at e; cases e
    | some sem =>
      rw [em] at e
      simp only at e
      cases es : sem [.fz (.ins c fs), .fz (.ins c2 fs2)] with
      | fail => rw [es] at e; cases e
      | exc x => rw [es] at e; cases e
      | ok r ts =>
        rw [es] at e
        have dx0 := dx
        have dy0 := dy
        simp only [Den] at dx dy
        obtain ⟨a, C, ax, vs, rfl, c1, f1, _⟩ := dx
        obtain ⟨b, C2, bx, ws, rfl, c2', f2, _⟩ := dy
        obtain ⟨f, fd, ps, m1, m2, m3, m4⟩ := (hm c sem em).ex C c1
        have T := hc c sem em C c2 C2 c1 c2'
        rw [← hK] at m1 m2 m3 m4 T
        refine ⟨a, b, C, ax, vs, C2, bx, ws, f, fd, ps, k, _, rfl, rfl, s a _ f1, s b _ f2, T, m2, m3, hr, m4, F, [.fz (.ins c fs), .fz (.ins c2 fs2)], [], fun _ => [], s, s.tb, rfl, rfl, ?_, ?_⟩
        · have := argsOk_fz (H := H) (n := 2) (ds := [.ins c fs, .ins c2 fs2]) (vs := [.ref a, .ref b]) (G := G) (F := F) (by simp only [DenL]; exact ⟨_, _, rfl, dx0, _, _, rfl, dy0, rfl⟩)
          simpa using this
        · rw [es]
          simp only
          intro v F' H' st sub ⟨fp, Br, _, _, o, _, _⟩
          split at e
          · rename_i r' kk ts' eq
            cases eq
            cases e
            simp only [Own, Den] at o
            exact ⟨kk, o.2, kq _ F' H' ⟨st, sub⟩ (by simp [Den])⟩
          · cases e
  · cases e
theorem cs_own {ms : Nat → Option (List T → FO)} {k : Nat} (hK : X.K = G.K) (hr : Room (k + 1) X.A) (hm : ∀ c sem, ms c = some sem → HasM X.prog X.w G X.mg X.base c "__eq__" k 2 sem) (hc : ∀ c sem, ms c = some sem → ∀ C c2 C2, G.ct c = some C → G.ct c2 = some C2 → EqC G.K C C2) : CmpS X G .Eq (owf ms false) := ⟨_, op_own, opD_own hK hr hm hc⟩
theorem cs_ownNe {ms : Nat → Option (List T → FO)} {k : Nat} (hK : X.K = G.K) (hr : Room (k + 1) X.A) (hm : ∀ c sem, ms c = some sem → HasM X.prog X.w G X.mg X.base c "__eq__" k 2 sem) (hc : ∀ c sem, ms c = some sem → ∀ C c2 C2, G.ct c = some C → G.ct c2 = some C2 → EqC G.K C C2) : CmpS X G .NotEq (owf ms true) := ⟨_, op_ownNe, opD_own hK hr hm hc⟩
end
end DL

end
section
namespace DL
open PySem PySem.Spec PyProof.Rows L2 LamX
variable [TB]
/-! ### lambdas without parameters -/
section
variable {X : Cx} {G : Tx} {W : WX} {C : DCtx} {pos : Pos}
theorem none_of {F H : Hp} (s : Sub F H) {a : Addr} (h : H a = none) : F a = none := by
  cases e : F a with
  | none => rfl
  | some u => rw [s a u e] at h; cases h
theorem lamO_ok {P : Program} {w : World} {H : Hp} {h : Heap} {f : Addr} {L : LamT} {cl : List (Str × Addr)} {c' : Addr} {pm ctv : Value} (e : h.get? f = some (PySem.W.kla_obj "<lambda>" L.q L.params L.body L.scope cl pm c' ctv)) : ObjOk P w H h f (LamO f L cl c') :=
  ⟨⟨pm, ctv, e⟩, ⟨_, e⟩, fun h1 h2 ⟨pm, ctv, q⟩ st => ⟨pm, ctv, st _ q⟩⟩
/-- the table grows, a code object and a function object come -/
theorem lay_lam {F H : Hp} {P f c' : Addr} {q : Str} {ps more : Array Value} {L : LamT} {cl : List (Str × Addr)} (s : Sub F H) (fP : F P = none) (hP : H P = some (.tbl ps)) (nc : H c' = none) (nf : H f = none) (ne : f ≠ c') (hu : ∀ p ∈ TB.tb, p.1 = P → p.2 = q)
    (ht : TriplesOk (ps ++ more).toList) (hc : ∀ (pos : Pos) (cv : Value), codeAmong pos (ps ++ more).toList = some cv → codeAmong pos ps.toList = some cv ∨ cv = .ref c') :
    Lay F H (upd (upd F c' (CodeO c' q)) f (LamO f L cl c')) (upd (upd (upd H P (.tbl (ps ++ more))) c' (CodeO c' q)) f (LamO f L cl c')) := by
  have Fc := none_of s nc
  have Ff := none_of s nf
  have Pc : P ≠ c' := ne_of_none hP nc
  have Pf : P ≠ f := ne_of_none hP nf
  have g : Gr F (upd (upd F c' (CodeO c' q)) f (LamO f L cl c')) := Gr.of_sub fun a o e => by rw [upd_ne (ne_of_none e Ff), upd_ne (ne_of_none e Fc)]; exact e
  refine ⟨⟨g, fun b o e => ?_, fun b o e _ => ?_, fun p hp t => ?_⟩, fun b o e => ?_⟩
  · by_cases q1 : b = f
    · rw [q1]; exact .inr (.inr (.inl nf))
    · rw [upd_ne q1] at e
      by_cases q2 : b = c'
      · rw [q2]; exact .inr (.inr (.inl nc))
      · rw [upd_ne q2] at e; exact .inl ⟨o, e⟩
  · rw [upd_ne (ne_of_none e nf), upd_ne (ne_of_none e nc)]
    by_cases q1 : b = P
    · subst q1
      rw [hP] at e; cases e
      exact .inr (.inr ⟨ps, _, rfl, upd_same⟩)
    · exact .inl (by rw [upd_ne q1]; exact e)
  · obtain ⟨f0, ps0, e0, t0, k0⟩ := t
    have n1 : p.1 ≠ f := ne_of_none e0 nf
    have n2 : p.1 ≠ c' := ne_of_none e0 nc
    have old : ∀ (pos : Pos) (cv : Value), codeAmong pos ps0.toList = some cv → ∃ c, cv = .ref c ∧ (upd (upd F c' (CodeO c' q)) f (LamO f L cl c')) c = some (CodeO c p.2) := fun pos cv hcv => by
      obtain ⟨c, e1, e2⟩ := k0 pos cv hcv
      exact ⟨c, e1, by rw [upd_ne (ne_of_none e2 Ff), upd_ne (ne_of_none e2 Fc)]; exact e2⟩
    by_cases q1 : p.1 = P
    · rw [q1, hP] at e0
      cases e0
      refine ⟨by rw [upd_ne n1, upd_ne n2]; exact f0, ps ++ more, by rw [q1, upd_ne Pf, upd_ne Pc, upd_same], ht, fun pos cv hcv => ?_⟩
      rcases hc pos cv hcv with z | z
      · exact old pos cv z
      · exact ⟨c', z, by rw [upd_ne (Ne.symm ne), upd_same, hu p hp q1]⟩
    · exact ⟨by rw [upd_ne n1, upd_ne n2]; exact f0, ps0, by rw [upd_ne n1, upd_ne n2, upd_ne q1]; exact e0, t0, old⟩
  · by_cases q1 : b = f
    · subst q1; rw [upd_same] at e ⊢; exact e
    · rw [upd_ne q1] at e ⊢
      by_cases q2 : b = c'
      · subst q2; rw [upd_same] at e ⊢; exact e
      · rw [upd_ne q2] at e ⊢
        rw [upd_ne (fun z => by rw [z, fP] at e; cases e)]
        exact s b o e
theorem pe_lam {c P : Addr} {params : Arguments} {body : Expr} {scope : Scope} (TB1 : TabB X.base X.mg c P) (hcode : X.env.code = .ref c) (hu : ∀ p ∈ TB.tb, p.1 = P → p.2 = X.env.qual ++ "<lambda>") (hdef : defaultsOf params X.env = ([], [])) (L : LamS X.env.scope scope) :
    PE X (.Lambda params body scope pos) (fun σ H Q => ∃ F, Sub F H ∧ TabF F H P (X.env.qual ++ "<lambda>") ∧ ∀ f c' F1 H1, Lay F H F1 H1 → F1 f = some (LamO f ⟨X.env.qual ++ "<lambda>", params, body, scope⟩ (cloFrom X.env.cells scope.names []) c') → F1 c' = some (CodeO c' (X.env.qual ++ "<lambda>")) → Q (.ref f) H1) := by
  refine ⟨fun pins s σ H Q I ⟨F, sub, ⟨fP, ps, hP, ht, ha⟩, k⟩ => ?_⟩
  have hfree := L.has I.ok
  refine PySem.W.kla_eval hdef ?_
  have bP : s.heap.BuiltinsAt X.mg P := TB1.bm.keeps I.bk
  have hP' : s.heap.get? P = some { cls := .none, data := .fields ps } := I.hok P _ hP
  cases hc : codeAmong pos ps.toList with
  | none =>
    refine PySem.W.kla_makeFunction (mg := X.mg) (c := c) (P := P) (ps := ps) (closure_ok hfree) I.ok.glob (I.mod.glob.keeps I.bk) hcode (TB1.code.keeps I.bk) hP' ht hc TB1.gP bP fun c' ctv h' tk hx hge hlt hrec htb => ?_
    obtain ⟨c2, oc, vs, t, e2, hoc, hd, hv⟩ := hrec
    cases e2
    have hsz : s.heap.objs.size ≤ h'.objs.size := Nat.le_trans hge (Nat.le_of_lt hlt)
    have nC : H c' = none := I.hok.fresh hge
    have nF : H h'.objs.size = none := I.hok.fresh hsz
    have n1 : h'.objs.size ≠ c' := Nat.ne_of_gt hlt
    have n2 : h'.objs.size ≠ P := Nat.ne_of_gt (Nat.lt_of_lt_of_le (Heap.lt_size hP') hsz)
    have I1 := inv_table (q := X.env.qual ++ "<lambda>") (t' := tk) (more := #[rawInt pos.line, rawInt pos.col, .ref c']) (h' := h') I hP hx htb hge ⟨oc, vs, t, hoc, hd, hv⟩
    have I2 := I1.laid (t' := tk) (a := h'.objs.size) (o := LamO h'.objs.size ⟨X.env.qual ++ "<lambda>", params, body, scope⟩ (cloFrom X.env.cells scope.names []) c') (h' := h'.push (PySem.W.kla_obj "<lambda>" (X.env.qual ++ "<lambda>") params body scope (cloFrom X.env.cells scope.names []) ((X.mg "__name__").getD .none) c' ctv))
      (fun b o e => Heap.get?_push_of_some _ e) (Nat.le_refl _) (lamO_ok (Heap.get?_push_size _ rfl))
    have eL : (ps ++ #[rawInt pos.line, rawInt pos.col, .ref c']).toList = ps.toList ++ [rawInt pos.line, rawInt pos.col, .ref c'] := by simp
    refine ⟨.ref h'.objs.size, _, I2, rfl, k _ c' _ _ (lay_lam sub fP hP nC nF n1 hu (by rw [eL]; exact PySem.TriplesOk_snoc _ _ _ _ ht) fun p' cv hcv => ?_) upd_same (by rw [upd_ne (Ne.symm n1), upd_same])⟩
    rw [eL] at hcv
    exact among_app _ ht hcv
  | some cv =>
    obtain ⟨c', e, hco⟩ := ha pos cv hc
    subst e
    refine PySem.W.kla_makeFunctionHit (mg := X.mg) (c := c) (P := P) (ps := ps) (closure_ok hfree) I.ok.glob (I.mod.glob.keeps I.bk) hcode (TB1.code.keeps I.bk) hP' ht hc bP fun ctv h' tk hx hsz => ?_
    have nF : H h'.objs.size = none := I.hok.fresh hsz
    have I1 : Inv X pins σ H { s with heap := h', toks := tk } := I.kept hx
    have I2 := I1.laid (t' := tk) (a := h'.objs.size) (o := LamO h'.objs.size ⟨X.env.qual ++ "<lambda>", params, body, scope⟩ (cloFrom X.env.cells scope.names []) c') (h' := h'.push (PySem.W.kla_obj "<lambda>" (X.env.qual ++ "<lambda>") params body scope (cloFrom X.env.cells scope.names []) ((X.mg "__name__").getD .none) c' ctv))
      (fun b o e => Heap.get?_push_of_some _ e) (Nat.le_refl _) (lamO_ok (Heap.get?_push_size _ rfl))
    have l : Lay F H (upd F h'.objs.size (LamO h'.objs.size ⟨X.env.qual ++ "<lambda>", params, body, scope⟩ (cloFrom X.env.cells scope.names []) c')) (upd H h'.objs.size (LamO h'.objs.size ⟨X.env.qual ++ "<lambda>", params, body, scope⟩ (cloFrom X.env.cells scope.names []) c')) := Lay.new sub nF
    exact ⟨.ref h'.objs.size, _, I2, rfl, k _ c' _ _ l upd_same (by rw [upd_ne (ne_of_none hco (none_of sub nF))]; exact hco)⟩
theorem de_lam {n : Nat} {c P : Addr} {cl : List (Str × Addr)} (hcl : X.env.cells = cl) {params : Arguments} {body : Expr} {scope : Scope} (hn : G.lm n = ⟨X.env.qual ++ "<lambda>", params, body, scope⟩) (TB1 : TabB X.base X.mg c P) (hcode : X.env.code = .ref c) (hm : (P, X.env.qual ++ "<lambda>") ∈ TB.tb) (hu : ∀ p ∈ TB.tb, p.1 = P → p.2 = X.env.qual ++ "<lambda>") (hdef : defaultsOf params X.env = ([], [])) (L : LamS X.env.scope scope) :
    DE X G W C (.Lambda params body scope pos) (fun env => .ok (.lam n cl) env) := by
  subst hcl
  exact PE_imp (pe_lam TB1 hcode hu hdef L) fun σ H Q ⟨F, env, rp, h⟩ => ⟨F, rp.sub, rp.tb _ hm, fun f c' F1 H1 l e1 e2 => h _ H1 F1 l.gr ⟨rp.lay l, by simp only [Den]; exact ⟨f, c', rfl, by rw [hn]; exact e1, by rw [hn]; exact e2⟩⟩⟩
/-- its call, in the frame that made it -/
theorem pe_acts {i k : Nat} {a : Str} {p1 p2 : Pos} {params : Arguments} {body : Expr} {scope : Scope} {tb : XK → TE} (L : LamS X.env.scope scope) (tk : Takes X W) (hr : Room (k + 1) X.A)
    (hbind : ∀ (q : Str) (cl : List (Str × Addr)) (pm cv ctv : Value), bindArgs (PySem.W.kla_fn "<lambda>" q params body scope cl pm cv ctv) ⟨[], []⟩ = pure [])
    (hbody : ∀ (A : Around) (outer : List PySem.Env) (s : Shared) (H : Hp) (E : XK) (f c' : Addr), Room k (A.deeper (lamEnv X scope s.heap.objs.size f c')) → PE (lamCx X A outer s H E scope f c') body (tb E))
    (hN : X.N[i]? = some a) (hv : Vis X.env.scope a) (hd : (a == ("__debug__" : Str)) = false) (hcd : (a == ("__classdict__" : Str)) = false) {pins : List (Addr × Obj)} {s : Shared} {σ : L2.St} {H : Hp} {Q : VK} (I : L2.Inv X pins σ H s) {f c' : Addr} (hs : σ[i]? = some (some (.ref f)))
    (hf : H f = some (LamO f ⟨X.env.qual ++ "<lambda>", params, body, scope⟩ (cloFrom X.env.cells scope.names []) c')) (hc : H c' = some (CodeO c' (X.env.qual ++ "<lambda>"))) (ht : tb (fun cls d H' => W cls d σ H') σ H Q) :
    wpAny (model X.prog X.w) X.A (eval (.Call (.Name a p1) [] [] p2) X.env) (EP X pins σ Q) X.xe s := by
  refine wpAny_Call_Name_kw (thn ((pe_var (pos := p1) (i := i) hN hv hd hcd).run pins s σ H (fun v H1 => v = .ref f ∧ H1 = H) I ⟨.ref f, hs, rfl, rfl⟩) fun u s1 ⟨v, H1, I1, r1, q1⟩ => ?_)
  obtain ⟨ev, eH⟩ := q1
  subst ev
  rw [eH] at I1
  obtain rfl : u = Value.ref f := r1
  obtain ⟨⟨pm, ctv, of1⟩, _, _⟩ := I1.hok f _ hf
  refine PySem.W.callWith_F0 ⟨_, _, _, _, of1⟩ ?_
  obtain ⟨⟨oc, vs, t, hoc, hdc, hvc⟩, _, _⟩ := I1.hok c' _ hc
  have rc : codeAny (model X.prog X.w) X.A (.call (.ref f) ⟨[], []⟩) (CR (L2.CX X.prog X.w) X.stack X.prog X.w H s1 Q (fun cls d H' => W cls d σ H')) s1 := by
    refine PySem.W.kla_callFunE hr.depth of1 rfl L.co L.gen rfl ⟨c', oc, vs, t, rfl, hoc, hdc, hvc⟩ ?_
    rw [hbind]
    refine wpAny_pure (wpAny_newFunctionEnv (fun y hy => (L.own y hy).2) (fun y hy => absurd hy (by simp)) (fun h₁ hns hsb => ⟨I1.nolimit.fresh _ hsb, ?_⟩) L.kind)
    show codeAny _ _ (.expr body (lamEnv X scope s1.heap.objs.size f c')) _ _
    have kp : ∀ b o, s1.heap.get? b = some o → h₁.get? b = some o := fun b o e => hsb.extBut b o (Nat.ne_of_lt (Heap.lt_size e)) (Heap.get?_push_of_some _ e)
    have J : L2.Inv (lamCx X X.A X.stack s1 H (fun cls d H' => W cls d σ H') scope f c') [] σ H { s1 with heap := h₁, toks := s1.toks + ([] : List (Str × Value)).length } :=
      lam_start2 I1 L I1.env0 hr.hd Un.refl hns kp
    refine PySem.W.kla_codeExpr (wpAny_mono ((hbody _ _ s1 H _ f c' (hr.deeper _)).run [] _ _ H Q J ht) (fun v s' hq => ?_) fun e s' hq => hq)
    obtain ⟨w', H', J', rv, q⟩ := hq
    exact ⟨w', H', J'.os, J'.bare, J'.base, J'.hok, rv, q⟩
  refine wpAny_call (codeAny_mono rc fun r s' hq => ?_)
  cases r with
  | error e => exact passAt tk σ pins H s1 e s' I1 hq
  | ok fl =>
    cases fl with
    | ret u => exact I1.after hq
    | next => exact False.elim hq
    | brk => exact False.elim hq
    | cont => exact False.elim hq
def actG (i : Nat) (cells : List (Str × Addr)) (acts : List (Nat × (Env → Out D))) (env : Env) : Out D := match env[i]? with
  | some (some (Ent.own (.fz (.lam n cl)))) => if cl = cells then (match acts.lookup n with
    | some g => g env
    | none => .fail) else .fail
  | _ => .fail
/-- what the text says of a lambda -/
structure LamF (X : Cx) (G : Tx) (C : DCtx) (k n : Nat) (g : Env → Out D) : Prop where
  q : (G.lm n).q = X.env.qual ++ "<lambda>"
  L : LamS X.env.scope (G.lm n).scope
  bind : ∀ (q : Str) (cl : List (Str × Addr)) (pm cv ctv : Value), bindArgs (PySem.W.kla_fn "<lambda>" q (G.lm n).params (G.lm n).body (G.lm n).scope cl pm cv ctv) ⟨[], []⟩ = pure []
  body : ∀ (A : Around) (outer : List PySem.Env) (s : Shared) (H : Hp) (E : XK) (f c' : Addr), Room k (A.deeper (lamEnv X (G.lm n).scope s.heap.objs.size f c')) → DE (lamCx X A outer s H E (G.lm n).scope f c') G (fun cls d _ H' => E cls d H') C (G.lm n).body g
/-- what the text says of some lambdas -/
def LamFs (X : Cx) (G : Tx) (C : DCtx) (k : Nat) (acts : List (Nat × (Env → Out D))) : Prop := ∀ p ∈ acts, LamF X G C k p.1 p.2
theorem lamfs_nil {k : Nat} : LamFs X G C k [] := fun _ z => nomatch z
theorem lamfs_cons {k n : Nat} {g : Env → Out D} {r : List (Nat × (Env → Out D))} (h : LamF X G C k n g) (hs : LamFs X G C k r) : LamFs X G C k ((n, g) :: r) := fun p hp => by
  rcases List.mem_cons.mp hp with z | z
  · rw [z]; exact h
  · exact hs p z
theorem lamF_mk {k n : Nat} {g : Env → Out D} {q : Str} {params : Arguments} {body : Expr} {scope : Scope} (hn : G.lm n = ⟨q, params, body, scope⟩) (hq : q = X.env.qual ++ "<lambda>") (L : LamS X.env.scope scope)
    (hb : ∀ (q : Str) (cl : List (Str × Addr)) (pm cv ctv : Value), bindArgs (PySem.W.kla_fn "<lambda>" q params body scope cl pm cv ctv) ⟨[], []⟩ = pure [])
    (hd : ∀ (A : Around) (outer : List PySem.Env) (s : Shared) (H : Hp) (E : XK) (f c' : Addr), Room k (A.deeper (lamEnv X scope s.heap.objs.size f c')) → DE (lamCx X A outer s H E scope f c') G (fun cls d _ H' => E cls d H') C body g) : LamF X G C k n g where
  q := by rw [hn]; exact hq
  L := by rw [hn]; exact L
  bind := by rw [hn]; exact hb
  body := by rw [hn]; exact hd
theorem de_act {i k : Nat} {a : Str} {p1 p2 : Pos} {acts : List (Nat × (Env → Out D))} {cl : List (Str × Addr)} (hcl : X.env.cells = cl) (tk : Takes X W) (hr : Room (k + 1) X.A) (hl : LamFs X G C k acts) (hN : X.N[i]? = some a) (hv : Vis X.env.scope a) (hd : (a == ("__debug__" : Str)) = false := by decide) (hcd : (a == ("__classdict__" : Str)) = false := by decide) :
    DE X G W C (.Call (.Name a p1) [] [] p2) (actG i cl acts) := by
  subst hcl
  refine ⟨fun pins s σ H Q I ⟨F, env, rp, h⟩ => ?_⟩
  unfold actG at h
  split at h
  · rename_i n cl e
    split at h
    · rename_i hcl
      subst hcl
      cases el : acts.lookup n with
      | none => rw [el] at h; exact h.elim
      | some g =>
        rw [el] at h
        have LF := hl _ (lookup_mem el)
        obtain ⟨v, B, h1, h2⟩ := rp.at_ (.inl e)
        simp only [Own, Den] at h2
        obtain ⟨_, f, c', rfl, e1, e2⟩ := h2
        have hL : G.lm n = ⟨X.env.qual ++ "<lambda>", (G.lm n).params, (G.lm n).body, (G.lm n).scope⟩ := by rw [← LF.q]
        rw [LF.q] at e2
        rw [hL] at e1
        exact pe_acts (tb := fun E => dE G (fun cls d _ H' => E cls d H') C g) LF.L tk hr LF.bind (fun A outer s H E f c' hr => LF.body A outer s H E f c' hr) hN hv hd hcd I h1 (rp.sub f _ e1) (rp.sub c' _ e2) ⟨F, env, rp, h⟩
    · exact h.elim
  · exact h.elim
end
end DL

end
section
namespace DL
open PySem PySem.Spec PyProof.Rows L2
variable [TB]
section
variable {X : Cx} {G : Tx} {W : WX} {C : DCtx} {a b o value : Expr} {rest : List Expr} {ga gb gi gv : Env → Out D} {pos tpos : Pos} {i : Nat} {p : Pth}
/-! ### P[j] += e, ints -/
theorem get_list : PGet X (rIxL X.K) := by
  intro pins s σ H x y v u Q I rx ry h
  obtain ⟨p, xs, i, z, rfl, rfl, hq, he, q⟩ := h
  cases rx
  obtain ⟨t, rfl⟩ := ry
  obtain ⟨its, r, pl, hz⟩ := I.list hq
  obtain ⟨j, h1, h2, h3, h4, h5⟩ := atI_get he
  obtain ⟨w, ew, rw'⟩ := r.get h2
  have hl := r.length
  have hn := line63
  have fin : EP X pins σ Q w s := ⟨z, H, I, rw', q⟩
  by_cases h0 : 0 ≤ i
  · have hj : i.toNat = j := by
      rw [seqIndex_of h0 h5] at h1
      exact Option.some.inj h1
    exact wpAny_getItem_list pl.isList h0 (by omega) (by rw [hj]; simpa using ew) fin
  · have hj : (i + (its.toArray.size : Int)).toNat = j := by
      rw [seqIndex_neg (by omega) h4] at h1
      rw [List.size_toArray, ← hl]
      exact Option.some.inj h1
    exact wpAny_getItem_list_neg pl.isList (by omega) (by rw [List.size_toArray] <;> omega) (by omega) (by rw [hj]; simpa using ew) fin
def augI (i : Nat) (p : Pth) (gi gv : Env → Out D) (env : Env) : Out Fl := match rdo i p env with
  | some (.lst ds) => (pur gi env).bind fun j e => match j with
    | .int j => (match ixN ds.length j, atI ds j with
      | some m, some (.int n) => (pur gv e).bind fun d e => match d with
        | .int k => (match putG i p (.lst (ds.set m (.int (n + k)))) e with
          | some e' => .ok .nx e'
          | none => .fail)
        | _ => .fail
      | _, _ => .fail)
    | _ => .fail
  | _ => .fail
theorem ds_augI (hK : X.K = G.K) (ok : POk G p) (hp : DP X G o i p) (hi : ∀ C', C'.pv = [] → DE X G W C' b gi) (hv : ∀ C', C'.pv = [] → DE X G W C' value gv)
    (ha : ∀ ov iv new, augStore b ov iv new = (do holding [new, ov, iv] (setItem ov iv new); release [new, ov, iv] []; pure .next) := by intros; rfl) : DS X G W C (.AugAssign (.Subscript o b tpos) .Add value pos) (augI i p gi gv) := by
  refine PS_imp (ps_augS hp (pe_pur (C := C) hi) get_list (pe_pur (C := C) hv) ip_add set_list ha) fun N σ H ⟨F, env, r, q⟩ => ?_
  unfold augI at q
  split at q
  · rename_i ds e0
    obtain ⟨v, a, vs, h1, h2, h3, h4, h5, mi, _⟩ := r.lst_at ok e0
    refine ⟨v, _, h1, h2, F, env, r, pS_pur q fun j w H1 F1 l dj q1 => ?_⟩
    cases j with
    | int j =>
      simp only [Den] at dj
      subst dj
      simp only at q1
      obtain ⟨v', a', vs', k1, k2, k3, k4, k5, _, _⟩ := (r.lay l).lst_at ok e0
      rw [h1] at k1; cases k1
      obtain rfl : a = a' := by have := (rdo_dropped h2 l).det k2; cases this; rfl
      split at q1
      · rename_i m n em en
        obtain ⟨y, e1, dy⟩ := atI_den k5 en
        simp only [Den] at dy
        subst dy
        rw [hK]
        refine ⟨a, vs', j, .int n, rfl, rfl, SqL.of k4, e1, F1, env, r.lay l, pS_pur q1 fun d w2 H2 F2 l2 dd q2 => ?_⟩
        cases d with
        | int k =>
          simp only [Den] at dd
          subst dd
          simp only at q2
          obtain ⟨v3, a3, vs3, m1, m2, m3, m4, m5, _, m6⟩ := ((r.lay l).lay l2).lst_at ok e0
          rw [h1] at m1; cases m1
          obtain rfl : a = a3 := by have := (rdo_dropped (rdo_dropped h2 l) l2).det m2; cases this; rfl
          obtain ⟨env', e2, r'⟩ := m6 (m5.setD m (d := .int (n + k)) (v := .int (n + k)) (by simp [Den]))
          rw [e2] at q2
          exact ⟨n, k, rfl, rfl, a, vs3, j, m, rfl, rfl, m4, by rw [m5.len]; exact em, q2 σ _ F2 (.refl F2) r'⟩
        | _ => exact q2.elim
      · exact q1.elim
    | _ => exact q1.elim
  · exact q.elim
/-! ### truth of values -/
def truD : D → Option Bool
  | .non => some false
  | .bl k => some k
  | .int i => some (i != 0)
  | .str x => if x.length ≤ sizeLine then some ((x.length : Int) != 0) else none
  | .lst ds => some (!ds.isEmpty)
  | .tup ds => some (!ds.isEmpty)
  | .kt ds => some (!ds.isEmpty)
  | .scr ns => some (!ns.isEmpty)
  | _ => none
theorem emp_len {α β : Type} : ∀ {xs : List α} {ys : List β}, xs.length = ys.length → (!xs.isEmpty) = !ys.isEmpty
  | [], [], _ => rfl
  | [], _ :: _, h => by cases h
  | _ :: _, [], h => by cases h
  | _ :: _, _ :: _, _ => rfl
theorem tru_den {F H : Hp} (s : Sub F H) {d : D} {v : V} {k : Bool} (h : Den G F d v) (e : truD d = some k) : TruV G.K v H k := by
  cases d with
  | non => simp only [Den] at h; simp only [truD, Option.some.injEq] at e; subst h; subst e; rfl
  | bl b => simp only [Den] at h; simp only [truD, Option.some.injEq] at e; subst h; subst e; rfl
  | int b => simp only [Den] at h; simp only [truD, Option.some.injEq] at e; subst h; subst e; rfl
  | str x =>
    simp only [Den] at h
    subst h
    simp only [truD] at e
    split at e
    · rename_i hz; cases e; exact ⟨hz, rfl⟩
    · cases e
  | lst ds =>
    simp only [Den] at h; simp only [truD, Option.some.injEq] at e; subst e
    obtain ⟨a, vs, rfl, f, l⟩ := h
    exact .inl ⟨vs, SqL.of (s a _ f), emp_len l.len.symm⟩
  | tup ds =>
    simp only [Den] at h; simp only [truD, Option.some.injEq] at e; subst e
    obtain ⟨a, vs, rfl, f, l⟩ := h
    exact .inr (.inl ⟨vs, SqT.of (s a _ f), emp_len l.len.symm⟩)
  | kt ds =>
    simp only [Den] at h; simp only [truD, Option.some.injEq] at e; subst e
    obtain ⟨a, vs, rfl, f, l⟩ := h
    exact .inr (.inl ⟨vs, sub_sqT s f, emp_len l.len.symm⟩)
  | scr ns =>
    simp only [Den] at h; simp only [truD, Option.some.injEq] at e; subst e
    obtain ⟨a, rfl, f⟩ := h
    exact .inl ⟨_, sub_sqL s f, emp_len (by simp)⟩
  | _ => simp [truD] at e
theorem de_orT (hK : X.K = G.K) (ha : DE X G W C a ga) (hb : DE X G W C (.BoolOp .Or (b :: rest) pos) gb) : DE X G W C (.BoolOp .Or (a :: b :: rest) pos) (fun env => (ga env).bind fun x e => (lft (truD x) e).bind fun k e => if k = true then .ok x e else gb e) :=
  PE_imp (pe_orT ha hb) fun σ H Q ⟨F, env, rp, h⟩ => ⟨F, env, rp, pst_bind h fun d e1 x H1 F1 g1 r1 q1 => by
    cases et : truD d with
    | none => rw [et] at q1; exact q1.elim
    | some k =>
      rw [et] at q1
      rw [hK]
      refine ⟨k, tru_den r1.1.sub r1.2 et, ?_⟩
      cases k with
      | true => exact q1 x H1 F1 (.refl F1) r1
      | false => exact ⟨F1, e1, r1.1, q1⟩⟩
theorem de_andT (hK : X.K = G.K) (ha : DE X G W C a ga) (hb : DE X G W C (.BoolOp .And (b :: rest) pos) gb) : DE X G W C (.BoolOp .And (a :: b :: rest) pos) (fun env => (ga env).bind fun x e => (lft (truD x) e).bind fun k e => if k = true then gb e else .ok x e) :=
  PE_imp (pe_andT ha hb) fun σ H Q ⟨F, env, rp, h⟩ => ⟨F, env, rp, pst_bind h fun d e1 x H1 F1 g1 r1 q1 => by
    cases et : truD d with
    | none => rw [et] at q1; exact q1.elim
    | some k =>
      rw [et] at q1
      rw [hK]
      refine ⟨k, tru_den r1.1.sub r1.2 et, ?_⟩
      cases k with
      | false => exact q1 x H1 F1 (.refl F1) r1
      | true => exact ⟨F1, e1, r1.1, q1⟩⟩
theorem dt_tru (hK : X.K = G.K) (ha : DE X G W C a ga) (he : ∀ whole, isTrue a X.env whole = (do let v ← whole; standAt a.pos; holding [v] (truthy v)) := by intro _; rfl) : DT X G W C a (fun env => (ga env).bind fun x e => lft (truD x) e) :=
  PT_imp (pt_truth ha he) fun σ H Q ⟨F, env, rp, h⟩ => ⟨F, env, rp, pst_bind h fun d e1 x H1 F1 g1 r1 q1 => by
    cases et : truD d with
    | none => rw [et] at q1; exact q1.elim
    | some k =>
      rw [et] at q1
      rw [hK]
      exact ⟨k, tru_den r1.1.sub r1.2 et, q1 k H1 F1 (.refl F1) ⟨r1.1, rfl⟩⟩⟩
theorem dt_if {c : Expr} {tA tB' tC' : Env → Out Bool} (hc : DT X G W C c tA) (ha : DE X G W C a ga) (hb : DE X G W C b gb) (he : ∀ whole, isTrue (.IfExp c a b pos) X.env whole = (do let v ← whole; standAt (Expr.IfExp c a b pos).pos; holding [v] (truthy v)) := by intro _; rfl) :
    DT X G W C (.IfExp c a b pos) (fun env => ((tA env).bind fun c e => if c = true then ga e else gb e).bind fun x e => lft (asB x) e) := dt_val (de_if hc ha hb) he
theorem np {C : DCtx} {io : List Nat} (h : ∀ q ∈ C.pv, q.1 ∈ io) {i : Nat} (n : i ∉ io) : ∀ w, (i, w) ∉ C.pv := fun w z => n (h _ z)
theorem nps {C : DCtx} {io : List Nat} (h : ∀ q ∈ C.pv, q.1 ∈ io) {is : List Nat} (n : ∀ i ∈ is, i ∉ io) : ∀ i ∈ is, ∀ w, (i, w) ∉ C.pv := fun i hi w z => n i hi (h _ z)
theorem pv_nil {C' : DCtx} (h : C'.pv = []) {io : List Nat} : ∀ q ∈ C'.pv, q.1 ∈ io := fun q hq => by rw [h] at hq; cases hq
theorem pv_eq {C C' : DCtx} {io : List Nat} (hC : ∀ q ∈ C.pv, q.1 ∈ io) (h : C'.pv = C.pv) : ∀ q ∈ C'.pv, q.1 ∈ io := fun q hq => hC q (by rw [h] at hq; exact hq)
theorem pv_cons {C C' : DCtx} {io : List Nat} {i : Nat} {v : V} (hC : ∀ q ∈ C.pv, q.1 ∈ io) (h : C'.pv = (i, v) :: C.pv) : ∀ q ∈ C'.pv, q.1 ∈ i :: io := fun q hq => by
  rw [h] at hq
  rcases List.mem_cons.mp hq with z | z
  · rw [z]; exact List.mem_cons_self
  · exact List.mem_cons_of_mem _ (hC q z)
end
end DL

end
section
namespace DL
open PySem PySem.Spec PyProof.Rows L2
variable [TB]
theorem hu65 {A : Around} {k : Nat} (hr : Room k A) : A.units + 65 < cLine := by have := hr.un; omega
section
variable {P : Program} {w : World} {G : Tx} {mg : Str → Option Value} {base : Heap}
/-- what the promise's reading gives the body, and back -/
theorem fn_core {N ps : List Str} {n m : Nat} {io : List Nat} {g : Env → Out Fl} {vs : List V} {H : Hp} {Q : VK} {E : XK} (hn : ps.length = n) (hN : N.length = n + m) {F : Hp} {ts : List T} {A0 : List Addr} {fp : Nat → List Addr} (sub : Sub F H) (tbo : TbOk G F H) (h1 : ts.length = n) (h2 : vs.length = n) (ha : ArgsOk G F H n ts vs fp A0)
    (h : match fin io n (g (startE m ts)) with
      | .ok r ts' => ∀ v F' H', Step A0 F H F' H' → Sub F' H' → OutOk G A0 H F' H' r ts' v vs → Q v H'
      | .exc x => ∀ cls dd F' H', Step A0 F H F' H' → Sub F' H' → DenX G F' cls dd x → E cls dd H'
      | .fail => False) :
    ∃ C : DCtx, (∀ q ∈ C.pv, q.1 ∈ io) ∧ dS G (fun cls d _ H' => E cls d H') C g { nx := fun _ H' => Q .non H', rt := Q } (L2.start N vs) H := by
  obtain ⟨ha, hd⟩ := ha
  have hpv : ∀ q ∈ io.filterMap (fun i => vs[i]?.map fun v => (i, v)), q.1 ∈ io ∧ vs[q.1]? = some q.2 := fun q hq => by
    obtain ⟨i, hi, e⟩ := List.mem_filterMap.mp hq
    cases e2 : vs[i]? with
    | none => rw [e2] at e; cases e
    | some v => rw [e2] at e; cases e; exact ⟨hi, e2⟩
  refine ⟨⟨F, H, A0, io.filterMap (fun i => vs[i]?.map fun v => (i, v)), fun _ => none⟩, fun q hq => (hpv q hq).1, ?_⟩
  have r0 : RepF G ⟨F, H, A0, io.filterMap (fun i => vs[i]?.map fun v => (i, v)), fun _ => none⟩ F H (L2.start N vs) (startE m ts) fp := by
    refine ⟨.refl, sub, ?_, fun i t e => ?_, fun i v t e => (by cases e), fun i t e => ?_, fun i t e => ?_, fun i j ti tj ne ei ej => ?_, fun i v hv => ?_, tbo⟩
    · unfold L2.start startE
      simp only [List.length_append, List.length_map, List.length_replicate]
      omega
    · obtain ⟨t', e1, e2⟩ := startE_at e
      cases e2
      obtain ⟨v, h3, h4, _⟩ := ha i t e1
      exact ⟨v, start_at h3, h4⟩
    · obtain ⟨t', e1, e2⟩ := startE_at e
      cases e2
    · obtain ⟨t', e1, e2⟩ := startE_at e
      cases e2
      obtain ⟨v, h3, h4, h5, h6⟩ := ha i t e1
      exact ⟨h5, fun a z => .inl (h6 a z)⟩
    · obtain ⟨t1, e1, e2⟩ := startE_at ei
      obtain ⟨t2, e3, e4⟩ := startE_at ej
      have l1 := (List.getElem?_eq_some_iff.mp e1).1
      have l2 := (List.getElem?_eq_some_iff.mp e3).1
      exact hd i j ne (by omega) (by omega)
    · exact start_at (hpv _ hv).2
  refine ⟨F, startE m ts, ⟨fp, r0⟩, ?_⟩
  have pin : ∀ {i : Nat} {v : V} {σ' : L2.St} {F' H' : Hp} {e : Env} {fp' : Nat → List Addr}, RepF G ⟨F, H, A0, io.filterMap (fun i => vs[i]?.map fun v => (i, v)), fun _ => none⟩ F' H' σ' e fp' → i ∈ io → i < n → σ'[i]? = some (some v) → vs[i]? = some v := fun {i v σ' F' H' e fp'} r hi hl hv => by
    have e2 : vs[i]? = some (vs[i]'(by omega)) := by simp [h2, hl]
    have := r.pin i (vs[i]'(by omega)) (List.mem_filterMap.mpr ⟨i, hi, by rw [e2]; rfl⟩)
    rw [hv] at this
    cases this
    exact e2
  have done : ∀ {t : T} {v : V} {σ' : L2.St} {F' H' : Hp} {e : Env}, RepV G ⟨F, H, A0, io.filterMap (fun i => vs[i]?.map fun v => (i, v)), fun _ => none⟩ F' H' σ' e t v → OutOk G A0 H F' H' t (outs io n e) v vs ∧ Step A0 F H F' H' ∧ Sub F' H' := fun {t v σ' F' H' e} r => by
    obtain ⟨fp', A, r, o, nd, mi, dj⟩ := r
    refine ⟨⟨fp', A, fun i ti hi => ?_, fun i j ti tj ne hi hj => ?_, o, nd, mi⟩, r.st, r.sub⟩
    · obtain ⟨h3, h4, h5⟩ := outs_at hi
      obtain ⟨u, h6, h7⟩ := r.own i ti h5
      exact ⟨u, pin r h3 h4 h6, h7, (r.nd i ti h5).1, (r.nd i ti h5).2, dj i ti h5⟩
    · exact r.dj i j ti tj ne (outs_at hi).2.2 (outs_at hj).2.2
  cases e : g (startE m ts) with
  | fail => rw [e] at h; exact h.elim
  | exc x e' =>
    rw [e] at h
    intro cls dd σ' H' F' g1 r dx
    obtain ⟨fp', r⟩ := r
    exact h cls dd F' H' r.st r.sub dx
  | ok a e' =>
    rw [e] at h
    cases a with
    | nx =>
      intro σ' H' F' g1 r
      obtain ⟨h3, h4, h5⟩ := done (r.fz (d := .non) (v := .non) (by simp [Den]))
      exact h _ F' H' h4 h5 h3
    | rt t =>
      intro v σ' H' F' g1 r
      obtain ⟨h3, h4, h5⟩ := done r
      exact h v F' H' h4 h5 h3
    | bk => exact h.elim
    | ct => exact h.elim
/-- a def by its body, as the head tells of it -/
theorem fnD {x qual : Str} {params : Arguments} {body : List Stmt} {scope : Scope} {f : Addr} {fd : FuncData} {N ps : List Str} {k n m : Nat} {io : List Nat} {g : Env → Out Fl} (Fn : FunD G.K x qual params body scope [] [] f fd) (S : FnScope N ps scope) (hn : ps.length = n) (hN : N.length = n + m)
    (hb : ∀ (cdv : Value) (A : Around) (outer : List PySem.Env) (s : Shared) (H : Hp) (E : XK) (C : DCtx), Room k (A.deeper (envOfC qual scope s.heap.objs.size f cdv)) → (∀ q ∈ C.pv, q.1 ∈ io) →
      DSs (cxOf (L2.CX P w) P w G.K mg base N qual scope f cdv A outer s H E) G (fun cls d _ H' => E cls d H') C body g) :
    FnOk P w G.K mg base (L2.CX P w) (k + 1) f fd ps (spD G n (semOf n m io g)) := by
  refine Fn.ok S (fun vs H Q E h => ?_) (fun cdv A outer s H vs Q E hr h => ?_)
  · obtain ⟨F, ts, A0, fp, _, _, _, h2, _⟩ := h
    rw [h2, hn]
  · obtain ⟨F, ts, A0, fp, sub, tbo, h1, h2, ha, h⟩ := h
    unfold semOf at h
    rw [if_pos h1] at h
    obtain ⟨C, hC, hd⟩ := fn_core (N := N) hn hN sub tbo h1 h2 ha h
    exact ⟨_, hb cdv A outer s H E C hr hC, hd⟩
/-- .. whose body makes lambdas: the code object at c -/
theorem fnDL {x qual : Str} {params : Arguments} {body : List Stmt} {scope : Scope} {f c : Addr} {fd : FuncData} {N ps : List Str} {k n m : Nat} {io : List Nat} {g : List (Str × Addr) → Env → Out Fl} {sem : List T → FO} (Fn : FunD G.K x qual params body scope [] [] f fd) (hc : fd.code = .ref c) (S : FnScope N ps scope) (hn : ps.length = n) (hN : N.length = n + m)
    (hsem : ∀ cl ts, sem ts ≠ .fail → semOf n m io (g cl) ts = sem ts)
    (hb : ∀ (A : Around) (outer : List PySem.Env) (s : Shared) (H : Hp) (E : XK) (C : DCtx), Room k (A.deeper (envOfC qual scope s.heap.objs.size f (.ref c))) → (∀ q ∈ C.pv, q.1 ∈ io) →
      DSs (cxOf (L2.CX P w) P w G.K mg base N qual scope f (.ref c) A outer s H E) G (fun cls d _ H' => E cls d H') C body (g (cxOf (L2.CX P w) P w G.K mg base N qual scope f (.ref c) A outer s H E).env.cells)) :
    FnOk P w G.K mg base (L2.CX P w) (k + 1) f fd ps (spD G n sem) := by
  obtain ⟨oc, od, dV, kV, doc, pm, an, cdv, ct, osl, rfl, lk, hcd, _, _⟩ := Fn.ex
  obtain rfl : cdv = .ref c := hc
  refine fn_of lk hcd S (fun vs H Q E h => ?_) fun A outer s H vs Q E hr h => ?_
  · obtain ⟨F, ts, A0, fp, _, _, _, h2, _⟩ := h
    rw [h2, hn]
  · obtain ⟨F, ts, A0, fp, sub, tbo, h1, h2, ha, h⟩ := h
    have nf : sem ts ≠ .fail := fun z => by rw [z] at h; exact h
    have e := hsem (cxOf (L2.CX P w) P w G.K mg base N qual scope f (.ref c) A outer s H E).env.cells ts nf
    rw [← e] at h
    unfold semOf at h
    rw [if_pos h1] at h
    obtain ⟨C, hC, hd⟩ := fn_core (N := N) hn hN sub tbo h1 h2 ha h
    exact ⟨_, hb A outer s H E C hr hC, hd⟩
end
section
variable {X : Cx} {G : Tx} {W : WX} {C : DCtx}
theorem de_gInt {x : Str} {i : Int} {pos : Pos} (hg : Gl X x) (hm : ∃ t, X.mg x = some (.int i t)) (hd : (x == ("__debug__" : Str)) = false := by decide) : DE X G W C (.Name x pos) (fun env => .ok (.int i) env) := by
  obtain ⟨t, hm⟩ := hm
  exact de_glob (v := .int i) hg hm ⟨t, rfl⟩ (fun F => by simp [Den]) hd
theorem de_gStr {x z : Str} {pos : Pos} (hg : Gl X x) (hm : ∃ t, X.mg x = some (.str z t)) (hd : (x == ("__debug__" : Str)) = false := by decide) : DE X G W C (.Name x pos) (fun env => .ok (.str z) env) := by
  obtain ⟨t, hm⟩ := hm
  exact de_glob (v := .str z) hg hm ⟨t, rfl⟩ (fun F => by simp [Den]) hd
end
section
variable {X : Cx} {G : Tx} {W : WX} {C : DCtx}
theorem pok_nil : POk G [] := fun _ z => nomatch z
theorem pok_cons {cs : List Nat} {f : Str} {p : Pth} (h : AOk G cs f) (hp : POk G p) : POk G ((cs, f) :: p) := fun q hq => by
  rcases List.mem_cons.mp hq with z | z
  · rw [z]; exact h
  · exact hp q z
theorem dg_mono {e : Expr} {vs ws : List Nat} {g : D → Env → Option Env} (h : ∀ i ∈ vs, i ∈ ws) (hd : DG X G C e vs g) : DG X G C e ws g := PG_imp hd fun v σ H Q ⟨F, d, env, env', r, dv, e, k⟩ =>
  ⟨F, d, env, env', r, dv, e, fun σ' H' F' g l r n s => k σ' H' F' g l r n fun j hj => s j fun z => hj (h j z)⟩
end
section
variable {P : Program} {w : World} {K : PySem.W.Frag} {mg : Str → Option Value} {base : Heap}
theorem initD1 {x qual s1 p1 f1 : Str} {params : Arguments} {body : List Stmt} {scope : Scope} {f C : Addr} {fd : FuncData} (Fn : FunD K x qual params body scope [] [] f fd) (S : FnScope [s1, p1] [s1, p1] scope) (T : OexC K C) (hno : PySem.W.findIn K (.ref C) f1 = some none)
    (hb : ∀ (cdv : Value) (A : Around) (outer : List PySem.Env) (s : Shared) (H : Hp) (E : XK), PSs (cxOf (L2.CX P w) P w K mg base [s1, p1] qual scope f cdv A outer s H E) body (tOst K f1 (tVar 0) (tVar 1))) :
    FnOk P w K mg base (L2.CX P w) 1 f fd [s1, p1] (spX C [f1]) := by
  refine Fn.ok (k := 0) S (fun vs H Q E ⟨a, ws, e, hl, _⟩ => by rw [e]; simpa using hl) fun cdv A outer s H vs Q E hr h => ⟨_, hb cdv A outer s H E, ?_⟩
  obtain ⟨a, ws, rfl, hl, ha, k⟩ := h
  obtain ⟨y, rfl⟩ : ∃ y, ws = [y] := by
    match ws, hl with
    | [y], _ => exact ⟨y, rfl⟩
  refine ⟨y, rfl, .ref a, rfl, a, C, rfl, T, hno, .inl ⟨ha, fun dx n ne => ?_⟩⟩
  refine k dx _ n ne upd_same (by rw [upd_ne ne, upd_same]; rfl) fun b n1 n2 => by rw [upd_ne n1, upd_ne n2]
theorem initD2 {x qual s1 p1 p2 f1 f2 : Str} {params : Arguments} {body : List Stmt} {scope : Scope} {f C : Addr} {fd : FuncData} (Fn : FunD K x qual params body scope [] [] f fd) (S : FnScope [s1, p1, p2] [s1, p1, p2] scope) (T : OexC K C) (hno : PySem.W.findIn K (.ref C) f1 = some none) (hno2 : PySem.W.findIn K (.ref C) f2 = some none)
    (hb : ∀ (cdv : Value) (A : Around) (outer : List PySem.Env) (s : Shared) (H : Hp) (E : XK), PSs (cxOf (L2.CX P w) P w K mg base [s1, p1, p2] qual scope f cdv A outer s H E) body (tSeq (tOst K f1 (tVar 0) (tVar 1)) (tOst K f2 (tVar 0) (tVar 2)))) :
    FnOk P w K mg base (L2.CX P w) 1 f fd [s1, p1, p2] (spX C [f1, f2]) := by
  refine Fn.ok (k := 0) S (fun vs H Q E ⟨a, ws, e, hl, _⟩ => by rw [e]; simpa using hl) fun cdv A outer s H vs Q E hr h => ⟨_, hb cdv A outer s H E, ?_⟩
  obtain ⟨a, ws, rfl, hl, ha, k⟩ := h
  obtain ⟨y, z, rfl⟩ : ∃ y z, ws = [y, z] := by
    match ws, hl with
    | [y, z], _ => exact ⟨y, z, rfl⟩
  refine ⟨y, rfl, .ref a, rfl, a, C, rfl, T, hno, .inl ⟨ha, fun dx n ne => ?_⟩⟩
  refine ⟨z, rfl, .ref a, rfl, a, C, rfl, T, hno2, .inr ⟨dx, _, upd_same, by rw [upd_ne ne, upd_same], by simp, ?_⟩⟩
  refine k dx _ n ne (by rw [upd_ne (Ne.symm ne), upd_same]) (by rw [upd_same]; rfl) fun b n1 n2 => by rw [upd_ne n2, upd_ne n1, upd_ne n2]
end
end DL

end
section
namespace DL
open PySem PySem.Spec PyProof.Rows L2
variable [TB]
/-! ### facts of the written part, as checks -/
section
variable {K : PySem.W.Frag} {C C2 : Addr}
def clsB (K : PySem.W.Frag) (C : Addr) : Bool := PySem.W.plainGet K C Str.empty && (PySem.W.hasDictIn K C && (PySem.W.plainOver K C && decide (PySem.W.findIn K (.ref C) "__setattr__" = some (some (.builtin "object.__setattr__")))))
theorem ba2 {a b : Bool} (h : (a && b) = true) : a = true ∧ b = true := Bool.and_eq_true_iff.mp h
theorem clsB_ok (h : clsB K C = true) : Cls K C := by
  obtain ⟨h1, h⟩ := ba2 h
  obtain ⟨h2, h⟩ := ba2 h
  obtain ⟨h3, h4⟩ := ba2 h
  exact ⟨h1, h2, h3, of_decide_eq_true h4⟩
def noB (K : PySem.W.Frag) (C : Addr) (f : Str) : Bool := decide (PySem.W.findIn K (.ref C) f = some none)
def insB (K : PySem.W.Frag) (C : Addr) : Bool := clsB K C && (decide (PySem.W.findIn K (.ref C) "__class__" = some (some (.builtin "object.__class__"))) && (decide (PySem.W.specialIn K (.builtin "object.__class__") "__get__" = some (some (.builtin "getset_descriptor.__get__"))) && (decide (PySem.W.takesIn K (.builtin "object.__class__") = some true) && decide (PySem.W.mroIn K C (.type "object") = some true))))
theorem insB_ok (h : insB K C = true) : InsTy K C := by
  obtain ⟨h1, h⟩ := ba2 h
  obtain ⟨h2, h⟩ := ba2 h
  obtain ⟨h3, h⟩ := ba2 h
  obtain ⟨h4, h5⟩ := ba2 h
  exact ⟨clsB_ok h1, of_decide_eq_true h2, of_decide_eq_true h3, of_decide_eq_true h4, of_decide_eq_true h5⟩
def eqB (K : PySem.W.Frag) (C C2 : Addr) : Bool := decide (PySem.W.findIn K (.ref C) "__ne__" = some (some (.builtin "object.__ne__"))) && (decide (PySem.W.mroIn K C (.type "object") = some true) && PySem.W.notFirst K C (.ref C2))
theorem eqB_ok (h : eqB K C C2 = true) : EqC K C C2 := by
  obtain ⟨h1, h⟩ := ba2 h
  obtain ⟨h2, h3⟩ := ba2 h
  exact ⟨of_decide_eq_true h1, of_decide_eq_true h2, h3⟩
def oexB (K : PySem.W.Frag) (C : Addr) : Bool := (match K.lookup C with
  | some ⟨.type "type", _, .cls cd, sl⟩ => (match cd.mro, sl.toList with
    | .ref C' :: bm, [_, _, _, _, some (.builtin n), _] => C' == C && (n == "ValueError.__new__" && (!cd.hasDel && (cd.hasDict && PySem.HandSPX.refsVE bm)))
    | _, _ => false)
  | _ => false) && (decide (PySem.W.findIn K (.ref C) "__setattr__" = some (some (.builtin "object.__setattr__"))) && (decide (PySem.W.subIn K (.ref C) (.type "BaseException") = some true) && (decide (PySem.W.typeIn K (.ref C) = some (.type "type")) && PySem.W.keepIn K (.ref C))))
theorem oexB_ok (h : oexB K C = true) : OexC K C := by
  obtain ⟨h1, h⟩ := ba2 h
  obtain ⟨h2, h⟩ := ba2 h
  obtain ⟨h3, h⟩ := ba2 h
  obtain ⟨h4, h5⟩ := ba2 h
  refine ⟨?_, of_decide_eq_true h2, of_decide_eq_true h3, of_decide_eq_true h4, h5⟩
  split at h1
  · rename_i dd cd sl ho
    split at h1
    · rename_i C' bm k0 k1 k2 k3 n k5 hm hs
      simp only [Bool.and_eq_true, beq_iff_eq, Bool.not_eq_true'] at h1
      obtain ⟨rfl, rfl, hdel, hdct, hr⟩ := h1
      obtain ⟨nm, bs, mro, ns, qn, hd, sn, sub, ab, col, del⟩ := cd
      dsimp only at hm hdel hdct
      subst hm hdel hdct
      have hsl : sl = #[k0, k1, k2, k3, some (.builtin "ValueError.__new__"), k5] := by
        obtain ⟨l⟩ := sl
        simp only at hs
        rw [hs]
      subst hsl
      exact ⟨nm, qn, ns, bs, bm, sn, sub, ab, col, dd, k0, k1, k2, k3, k5, ho, hr⟩
    · cases h1
  · cases h1
def mkB (K : PySem.W.Frag) (C f : Addr) : Bool := PySem.W.makesIn K C && (decide (PySem.W.findIn K (.ref C) "__init__" = some (some (.ref f))) && (PySem.W.isFn K (.ref f) && PySem.W.keepIn K (.ref C)))
theorem mkB_ok {f : Addr} (h : mkB K C f = true) : Mk K C f := by
  obtain ⟨h1, h⟩ := ba2 h
  obtain ⟨h2, h⟩ := ba2 h
  obtain ⟨h3, h4⟩ := ba2 h
  exact ⟨h1, of_decide_eq_true h2, h3, h4⟩
def methB (K : PySem.W.Frag) (C : Addr) (m : Str) (f : Addr) : Bool := decide (PySem.W.findIn K (.ref C) m = some (some (.ref f))) && (PySem.W.isFn K (.ref f) && PySem.W.keepIn K (.ref f))
theorem methB_ok {m : Str} {f : Addr} (h : methB K C m f = true) : Meth K C m f := by
  obtain ⟨h1, h⟩ := ba2 h
  obtain ⟨h2, h3⟩ := ba2 h
  exact ⟨of_decide_eq_true h1, h2, h3⟩
def onB (ct : Nat → Option Addr) (c : Nat) (p : Addr → Bool) : Bool := match ct c with
  | some C => p C
  | none => true
theorem onB_ok {ct : Nat → Option Addr} {c : Nat} {p : Addr → Bool} (h : onB ct c p = true) {C : Addr} (e : ct c = some C) : p C = true := by
  unfold onB at h
  rw [e] at h
  exact h
variable {G : Tx}
def aokB (K : PySem.W.Frag) (ct : Nat → Option Addr) (cs : List Nat) (f : Str) : Bool := cs.all fun c => onB ct c fun C => clsB K C && noB K C f
theorem aokB_ok {cs : List Nat} {f : Str} (h : aokB G.K G.ct cs f = true) : AOk G cs f := fun c hc C e => by
  obtain ⟨h1, h2⟩ := ba2 (onB_ok (List.all_eq_true.mp h c hc) e)
  have h3 : PySem.W.findIn G.K (.ref C) f = some none := of_decide_eq_true h2
  exact ⟨clsB_ok h1, h3⟩
def isiB (K : PySem.W.Frag) (ct : Nat → Option Addr) (kit : Value → Option Bool) (tt : List (String × Bool)) (cc : List (Nat × Bool)) : Bool := (tt.all fun p => decide (kit (.type p.1) = some p.2)) && cc.all fun p => onB ct p.1 fun C => insB K C && decide (kit (.ref C) = some p.2)
theorem isiB_ok {kit : Value → Option Bool} {tt : List (String × Bool)} {cc : List (Nat × Bool)} (h : isiB G.K G.ct kit tt cc = true) : IsiOk G kit tt cc := by
  obtain ⟨h1, h2⟩ := ba2 h
  refine ⟨fun p hp => of_decide_eq_true (List.all_eq_true.mp h1 p hp), fun p hp C e => ?_⟩
  obtain ⟨h3, h4⟩ := ba2 (onB_ok (List.all_eq_true.mp h2 p hp) e)
  exact ⟨insB_ok h3, of_decide_eq_true h4⟩
def catB (K : PySem.W.Frag) (ct : Nat → Option Addr) (cE : Value) (is : List (Nat × Bool)) : Bool := is.all fun p => onB ct p.1 fun C => decide (PySem.W.exmOne K (.ref C) cE = some p.2)
theorem catB_ok {cE : Value} {is : List (Nat × Bool)} (h : catB G.K G.ct cE is = true) : Catches G cE (fun c => is.lookup c) := fun c b e C ec => of_decide_eq_true (onB_ok (List.all_eq_true.mp h _ (lookup_mem e)) ec)
def xfsB (K : PySem.W.Frag) (ct : Nat → Option Addr) (cs : List Nat) (f : Str) : Bool := cs.all fun c => onB ct c fun C => xfB K C && noB K C f
theorem xfsB_ok {cs : List Nat} {f : Str} (h : xfsB G.K G.ct cs f = true) : ∀ c ∈ cs, ∀ C1, G.ct c = some C1 → XfC G.K C1 ∧ PySem.W.findIn G.K (.ref C1) f = some none := fun c hc C e => by
  obtain ⟨h1, h2⟩ := ba2 (onB_ok (List.all_eq_true.mp h c hc) e)
  exact ⟨xfB_ok h1, of_decide_eq_true h2⟩
def eqsB (K : PySem.W.Frag) (ct : Nat → Option Addr) (cs all : List Nat) : Bool := cs.all fun c => onB ct c fun C => all.all fun c2 => onB ct c2 fun C2 => eqB K C C2
theorem eqsB_ok {cs all : List Nat} (h : eqsB G.K G.ct cs all = true) (ha : ∀ c C, G.ct c = some C → c ∈ all) : ∀ c ∈ cs, ∀ C c2 C2, G.ct c = some C → G.ct c2 = some C2 → EqC G.K C C2 := fun c hc C c2 C2 e e2 =>
  eqB_ok (onB_ok (List.all_eq_true.mp (onB_ok (List.all_eq_true.mp h c hc) e) c2 (ha c2 C2 e2)) e2)
end
end DL

end
section
namespace DL
open PySem PySem.Spec PyProof.Rows L2
variable [TB]
/-! ### lists of unlike lengths are unlike; two empty ones are alike -/
def rEqLen (X : Cx) : R2 := fun x y H Q => ∃ a b xs ys, x = .ref a ∧ y = .ref b ∧ SqL X.K H a xs ∧ SqL X.K H b ys ∧ ((xs.length ≠ ys.length ∧ Q (.bl false) H) ∨ (xs = [] ∧ ys = [] ∧ Q (.bl true) H))
theorem op_eqLen {X : Cx} (hu : X.A.units < cLine) : OpR X (compareOp .Eq) (rEqLen X) := by
  intro pins s σ H x y v u Q I rx ry h
  obtain ⟨a, b, xs, ys, rfl, rfl, ha, hb, q⟩ := h
  cases rx
  cases ry
  show wpAny (model X.prog X.w) X.A (richCompare .Eq (.ref a) (.ref b)) (EP X pins σ Q) X.xe s
  obtain ⟨its, r, ⟨o, n, e, c, pl, d⟩, _⟩ := I.list ha
  obtain ⟨its', r', ⟨o', n', e', c', pl', d'⟩, _⟩ := I.list hb
  have h1 : s.heap.IsList a its.toArray := ⟨o, e, by assumption, n, by assumption⟩
  have h2 : s.heap.IsList b its'.toArray := ⟨o', e', by assumption, n', by assumption⟩
  rcases q with ⟨ne, q⟩ | ⟨rfl, rfl, q⟩
  · refine SeqAt.RcAt.lists_lengths h1 h2 ?_ hu X.prog X.w X.xe _ ⟨.bl false, H, I, rfl, q⟩
    rw [List.size_toArray, List.size_toArray, ← r.length, ← r'.length]
    exact bne_iff_ne.mpr ne
  · have l1 := r.length
    have l2 := r'.length
    simp only [List.length_nil] at l1 l2
    have z1 : its = [] := List.length_eq_zero_iff.mp l1.symm
    have z2 : its' = [] := List.length_eq_zero_iff.mp l2.symm
    subst z1
    subst z2
    exact SeqAt.RcAt.lists (e := fun _ => true) h1 h2 rfl hu (fun j h1 _ => absurd h1 (by simp)) X.prog X.w X.xe _ ⟨.bl true, H, I, rfl, q⟩
def rowLst : D → Option (List D)
  | .lst ds => some ds
  | .scr ns => some (ns.map .int)
  | _ => none
theorem rowLst_ok {G : Tx} {F H : Hp} (s : Sub F H) {d : D} {v : V} {ds : List D} (h : Den G F d v) (e : rowLst d = some ds) : ∃ a vs, v = .ref a ∧ SqL G.K H a vs ∧ vs.length = ds.length := by
  cases d with
  | lst es =>
    simp only [rowLst, Option.some.injEq] at e
    subst e
    simp only [Den] at h
    obtain ⟨a, vs, rfl, f, l⟩ := h
    exact ⟨a, vs, rfl, SqL.of (s a _ f), DenL.len l⟩
  | scr ns =>
    simp only [rowLst, Option.some.injEq] at e
    subst e
    simp only [Den] at h
    obtain ⟨a, rfl, f⟩ := h
    exact ⟨a, _, rfl, sub_sqL s f, by simp⟩
  | _ => simp [rowLst] at e
def eqL (a b : D) : Option D := match rowLst a, rowLst b with
  | some xs, some ys => if xs.length ≠ ys.length then some (.bl false) else if xs.length = 0 then some (.bl true) else none
  | _, _ => none
theorem cs_eqL {X : Cx} {G : Tx} (hK : X.K = G.K) (hu : X.A.units < cLine) : CmpS X G .Eq eqL := ⟨_, op_eqLen hu, fun F H da db d x y Q s dx dy e k => by
  unfold eqL at e
  cases e1 : rowLst da with
  | none => rw [e1] at e; cases e
  | some xs =>
    cases e2 : rowLst db with
    | none => rw [e1, e2] at e; cases e
    | some ys =>
      rw [e1, e2] at e
      simp only at e
      obtain ⟨a, vs, rfl, q1, l1⟩ := rowLst_ok (H := H) s dx e1
      obtain ⟨b, ws, rfl, q2, l2⟩ := rowLst_ok (H := H) s dy e2
      refine ⟨a, b, vs, ws, rfl, rfl, by rw [hK]; exact q1, by rw [hK]; exact q2, ?_⟩
      split at e
      · rename_i hne
        cases e
        exact .inl ⟨by rw [l1, l2]; exact hne, k _ F H (.refl s) (by simp [Den])⟩
      · rename_i heq
        split at e
        · rename_i h0
          cases e
          have h0' : ys.length = 0 := by omega
          exact .inr ⟨List.length_eq_zero_iff.mp (by omega), List.length_eq_zero_iff.mp (by omega), k _ F H (.refl s) (by simp [Den])⟩
        · cases e⟩
end DL

end
section
namespace DL
open PySem PySem.Spec PyProof.Rows L2
/-! ### reading off what a def computes: the equations -/
section
variable {α β : Type}
@[simp] theorem b_ok (a : α) (e : Env) (k : α → Env → Out β) : (Out.ok a e).bind k = k a e := rfl
@[simp] theorem b_exc (x : Exn) (e : Env) (k : α → Env → Out β) : (Out.exc x e : Out α).bind k = .exc x e := rfl
@[simp] theorem b_fail (k : α → Env → Out β) : (Out.fail : Out α).bind k = .fail := rfl
@[simp] theorem m_ok (a : α) (e : Env) (f : α → β) : (Out.ok a e).map f = .ok (f a) e := rfl
@[simp] theorem m_exc (x : Exn) (e : Env) (f : α → β) : (Out.exc x e : Out α).map f = .exc x e := rfl
@[simp] theorem l_some (a : α) (e : Env) : lft (some a) e = .ok a e := rfl
@[simp] theorem l_none (e : Env) : lft (none : Option α) e = .fail := rfl
@[simp] theorem s_nx (e : Env) (k : Env → Out Fl) : seqF (.ok .nx e) k = k e := rfl
@[simp] theorem s_rt (t : T) (e : Env) (k : Env → Out Fl) : seqF (.ok (.rt t) e) k = .ok (.rt t) e := rfl
@[simp] theorem s_bk (e : Env) (k : Env → Out Fl) : seqF (.ok .bk e) k = .ok .bk e := rfl
@[simp] theorem s_ct (e : Env) (k : Env → Out Fl) : seqF (.ok .ct e) k = .ok .ct e := rfl
@[simp] theorem s_exc (x : Exn) (e : Env) (k : Env → Out Fl) : seqF (.exc x e) k = .exc x e := rfl
theorem o_some {f g : α → α → Option β} {a b : α} {c : β} (h : f a b = some c) : orF f g a b = some c := by unfold orF; rw [h]
def upO {α : Type} (x : Option Ent) : Out α → Out α
  | .ok d e => .ok d (x :: e)
  | .exc y e => .exc y (x :: e)
  | .fail => .fail
@[simp] theorem upO_ok (x : Option Ent) (d : α) (e : Env) : upO x (.ok d e) = .ok d (x :: e) := rfl
@[simp] theorem upO_fail (x : Option Ent) : upO x (.fail : Out α) = .fail := rfl
@[simp] theorem rdz_s (i : Nat) (x : Option Ent) (e : Env) : rdz (i + 1) (x :: e) = upO x (rdz i e) := by
  unfold rdz
  rw [List.getElem?_cons_succ]
  split
  · rename_i d h; simp only [h]; rfl
  · rename_i t n h; simp only [h]; rfl
  · rename_i d h; simp only [h]; rfl
  · rename_i h1 h2 h3; revert h1 h2 h3; cases e[i]? with
    | none => intros; rfl
    | some o => cases o with
      | none => intros; rfl
      | some u => cases u with
        | own t => cases t <;> intro h1 h2 h3 <;> first | (exact absurd rfl (h1 _)) | (exact absurd rfl (h2 _))
        | bor t => cases t <;> intro h1 h2 h3 <;> first | (exact absurd rfl (h3 _)) | rfl
@[simp] theorem rdz_z (d : D) (e : Env) : rdz 0 (some (.own (.fz d)) :: e) = .ok d (some (.own (.fz d)) :: e) := rfl
@[simp] theorem rdz_l (d : List D) (e : Env) : rdz 0 (some (.own (.lst d)) :: e) = .ok (.lst d) (some (.own (.fz (.lst d))) :: e) := by
  show Out.ok (er (.lst d)) _ = _
  simp only [er]
  rfl
@[simp] theorem stv_eq (i : Nat) (t : T) (e : Env) : stv i t e = .ok .nx (e.set i (some (Ent.own t))) := rfl
@[simp] theorem startE_eq (m : Nat) (ts : List T) : startE m ts = ts.map (fun t => some (Ent.own t)) ++ List.replicate m none := rfl
@[simp] theorem fin_nx (io : List Nat) (n : Nat) (e : Env) : fin io n (.ok .nx e) = .ok (.fz .non) (outs io n e) := rfl
@[simp] theorem fin_rt (io : List Nat) (n : Nat) (t : T) (e : Env) : fin io n (.ok (.rt t) e) = .ok t (outs io n e) := rfl
@[simp] theorem fin_exc (io : List Nat) (n : Nat) (x : Exn) (e : Env) : fin io n (.exc x e) = .exc x := rfl
@[simp] theorem fin_fail (io : List Nat) (n : Nat) : fin io n .fail = .fail := rfl
@[simp] theorem callG_eq (n : Nat) (sem : List T → FO) (gs : Env → Out (List D)) (env : Env) : callG n sem gs env = (gs env).bind fun ds e => match fo n sem (ds.map T.fz) with
  | .ok t _ => .ok t e
  | .exc x => .exc x e
  | .fail => .fail := rfl
@[simp] theorem fo_eq (n : Nat) (sem : List T → FO) (ts : List T) : fo n sem ts = if ts.length = n then sem ts else .fail := rfl
@[simp] theorem er_fz (d : D) : er (.fz d) = d := by simp [er]
@[simp] theorem er_lst (d : List D) : er (.lst d) = .lst d := by simp [er]
@[simp] theorem asB_bl (b : Bool) : asB (.bl b) = some b := rfl
@[simp] theorem outs_nil (n : Nat) (e : Env) : outs [] n e = List.replicate n none := by
  unfold outs
  simp only [List.not_mem_nil, if_false]
  rw [List.map_const', List.length_range]
theorem semOf_ok {n m : Nat} {io : List Nat} {g : Env → Out Fl} {ts : List T} (h : ts.length = n) : semOf n m io g ts = fin io n (g (startE m ts)) := if_pos h
@[simp] theorem addf_i (i j : Int) : addf (.int i) (.int j) = some (.fz (.int (i + j))) := rfl
@[simp] theorem subf_i (i j : Int) : subf (.int i) (.int j) = some (.fz (.int (i - j))) := rfl
@[simp] theorem mulf_l (i j : Int) (h : -18446744073709551616 < i ∧ i < 18446744073709551616) : mulf (.int i) (.int j) = some (.fz (.int (i * j))) := if_pos (decide_eq_true (.inl h))
@[simp] theorem mulf_r (i j : Int) (h : -18446744073709551616 < j ∧ j < 18446744073709551616) : mulf (.int i) (.int j) = some (.fz (.int (i * j))) := if_pos (decide_eq_true (.inr h))
@[simp] theorem fdivf_i (i j : Int) (h : j ≠ 0 ∧ j.natAbs < 1073741824) : fdivf (.int i) (.int j) = some (.fz (.int (i.fdiv j))) := if_pos (decide_eq_true h)
@[simp] theorem modf_i (i j : Int) (h : j ≠ 0) : modf (.int i) (.int j) = some (.fz (.int (i.fmod j))) := if_pos (decide_eq_true h)
theorem pow18 : powf (.int 10) (.int 18) = some (.fz (.int 1000000000000000000)) := by rfl
@[simp] theorem ltf_i (i j : Int) : ltf (.int i) (.int j) = some (.bl (decide (i < j))) := rfl
@[simp] theorem lef_i (i j : Int) : lef (.int i) (.int j) = some (.bl (decide (i ≤ j))) := rfl
@[simp] theorem gtf_i (i j : Int) : gtf (.int i) (.int j) = some (.bl (decide (j < i))) := rfl
@[simp] theorem gef_i (i j : Int) : gef (.int i) (.int j) = some (.bl (decide (j ≤ i))) := rfl
@[simp] theorem intf_i (i : Int) : intf [.int i] = some (.fz (.int i)) := rfl
@[simp] theorem lenf_scr (ns : List Int) : lenf [.scr ns] = some (.fz (.int ns.length)) := by simp [lenf, rowD]
@[simp] theorem lenf_lst (ns : List D) : lenf [.lst ns] = some (.fz (.int ns.length)) := by simp [lenf, rowD]
@[simp] theorem lenf_tup (ns : List D) : lenf [.tup ns] = some (.fz (.int ns.length)) := by simp [lenf, rowD]
@[simp] theorem small0 {γ : Type} : small ([] : List γ) = true := rfl
@[simp] theorem small1 {γ : Type} (a : γ) : small [a] = true := rfl
@[simp] theorem small2 {γ : Type} (a b : γ) : small [a, b] = true := rfl
@[simp] theorem small3 {γ : Type} (a b c : γ) : small [a, b, c] = true := rfl
theorem small_le {γ : Type} {xs : List γ} (h : xs.length ≤ 16777216) : small xs = true := decide_eq_true h
theorem pyDs_ints : ∀ ns : List Int, pyDs (ns.map D.int) = some (ns.map PyData.int)
  | [] => rfl
  | n :: ns => by simp [pyDs, pyD, pyDs_ints ns]
theorem depth_ints : ∀ ns : List Int, PyData.depthAll (ns.map PyData.int) = 0
  | [] => rfl
  | n :: ns => by simp [PyData.depthAll, PyData.depth, depth_ints ns]
theorem lay_ints : ∀ ns : List Int, PyData.canLayAll0 (ns.map PyData.int) = true
  | [] => rfl
  | n :: ns => by simp [PyData.canLayAll0, PyData.canLay0, lay_ints ns]
@[simp] theorem nef_scr (ns : List Int) : nef (.scr ns) (.lst []) = some (.bl (decide (ns ≠ []))) := by
  have h : SeqAt.shaped (.list (ns.map PyData.int)) = true := by simp [SeqAt.shaped, PyData.canLay0, PyData.depth, depth_ints, lay_ints]
  have h2 : SeqAt.shaped (.list []) = true := rfl
  simp only [nef, pyD, pyDs, Option.map_some, h, h2, true_and, and_self, if_true]
  cases ns with
  | nil => rfl
  | cons n ns => rfl
theorem atI_nat {γ : Type} (xs : List γ) (i : Nat) (h : i < xs.length) : atI xs (i : Int) = some xs[i] := by
  unfold atI ixN
  simp [h]
theorem ixf_scr (ns : List Int) (i : Nat) (h : i < ns.length) : ixf (.scr ns) (.int (i : Int)) = some (.int ns[i]) := by
  simp only [ixf, rowD, Option.bind_some]
  rw [atI_nat _ _ (by simpa using h)]
  simp
theorem ixf_scrI (ns : List Int) (i : Int) (h0 : 0 ≤ i) (h1 : i < ns.length) : ixf (.scr ns) (.int i) = some (.int (ns.getD i.toNat 0)) := by
  obtain ⟨n, rfl⟩ := Int.eq_ofNat_of_zero_le h0
  rw [ixf_scr ns n (by omega)]
  simp [List.getD_eq_getElem?_getD, List.getElem?_eq_getElem (show n < ns.length by omega)]
theorem ixf_lst (ds : List D) (i : Nat) (h : i < ds.length) : ixf (.lst ds) (.int (i : Int)) = some ds[i] := by
  simp only [ixf, rowD, Option.bind_some]
  exact atI_nat _ _ h
theorem ixf_tup (ds : List D) (i : Nat) (h : i < ds.length) : ixf (.tup ds) (.int (i : Int)) = some ds[i] := by
  simp only [ixf, rowD, Option.bind_some]
  exact atI_nat _ _ h
@[simp] theorem ixf_tup0 (a : D) (ds : List D) : ixf (.tup (a :: ds)) (.int 0) = some a := ixf_tup _ 0 (by simp)
@[simp] theorem ixf_tup1 (a b : D) (ds : List D) : ixf (.tup (a :: b :: ds)) (.int 1) = some b := ixf_tup _ 1 (by simp)
@[simp] theorem ixf_tup2 (a b c : D) (ds : List D) : ixf (.tup (a :: b :: c :: ds)) (.int 2) = some c := ixf_tup _ 2 (by simp)
@[simp] theorem ixf_lst0 (a : D) (ds : List D) : ixf (.lst (a :: ds)) (.int 0) = some a := ixf_lst _ 0 (by simp)
@[simp] theorem ixf_lst1 (a b : D) (ds : List D) : ixf (.lst (a :: b :: ds)) (.int 1) = some b := ixf_lst _ 1 (by simp)
@[simp] theorem ixf_lst2 (a b c : D) (ds : List D) : ixf (.lst (a :: b :: c :: ds)) (.int 2) = some c := ixf_lst _ 2 (by simp)
@[simp] theorem lk_nx (e : Env) (k : Env → Out Fl) : loopK (.ok .nx e) k = k e := rfl
@[simp] theorem lk_ct (e : Env) (k : Env → Out Fl) : loopK (.ok .ct e) k = k e := rfl
@[simp] theorem lk_bk (e : Env) (k : Env → Out Fl) : loopK (.ok .bk e) k = .ok .nx e := rfl
@[simp] theorem lk_rt (t : T) (e : Env) (k : Env → Out Fl) : loopK (.ok (.rt t) e) k = .ok (.rt t) e := rfl
@[simp] theorem lk_exc (x : Exn) (e : Env) (k : Env → Out Fl) : loopK (.exc x e) k = .exc x e := rfl
@[simp] theorem forD_nil (gt : D → Env → Option Env) (gb : Env → Out Fl) (e : Env) : forD gt gb [] e = .ok .nx e := rfl
@[simp] theorem gtN_eq (i : Nat) (d : D) (env : Env) : gtN i d env = some (env.set i (some (.own (.fz d)))) := rfl
/-- a loop keeps what each turn keeps -/
theorem forD_inv {gt : D → Env → Option Env} {gb : Env → Out Fl} (I : Env → Prop) : ∀ {ds : List D} {e : Env}, (∀ d ∈ ds, ∀ e, I e → ∃ e1 e2, gt d e = some e1 ∧ gb e1 = .ok .nx e2 ∧ I e2) → I e → ∃ e', forD gt gb ds e = .ok .nx e' ∧ I e'
  | [], e, _, i => ⟨e, rfl, i⟩
  | d :: ds, e, h, i => by
    obtain ⟨e1, e2, h1, h2, h3⟩ := h d (by simp) e i
    obtain ⟨e', h4, h5⟩ := forD_inv I (ds := ds) (fun d hd => h d (by simp [hd])) h3
    exact ⟨e', by simp only [forD, h1, h2, lk_nx]; exact h4, h5⟩
theorem rng1_nat (n : Nat) (h : n ≤ 16777216) : rng1 [.int (n : Int)] = some (rngD 0 n) := by
  have e : rng1 [.int (n : Int)] = if -(2 ^ 62) ≤ (n : Int) ∧ (n : Int) < 2 ^ 62 then some (rngD 0 (n : Int).toNat) else none := rfl
  rw [e, if_pos (by omega)]
  rfl
theorem seq_for {gt : D → Env → Option Env} {gb : Env → Out Fl} {ds : List D} {e : Env} {k : Env → Out Fl} {P : Out Fl → Prop} (I : Env → Prop) (turn : ∀ d ∈ ds, ∀ e, I e → ∃ e1 e2, gt d e = some e1 ∧ gb e1 = .ok .nx e2 ∧ I e2) (start : I e) (rest : ∀ e', I e' → P (k e')) : P (seqF (forD gt gb ds e) k) := by
  obtain ⟨e', h1, h2⟩ := forD_inv I turn start
  rw [h1]
  exact rest e' h2
theorem fmod_nat (a b : Nat) : (a : Int).fmod (b : Int) = ((a % b : Nat) : Int) := by rw [Int.fmod_eq_emod_of_nonneg _ (Int.natCast_nonneg b)]; rfl
theorem fdiv_nat (a b : Nat) : (a : Int).fdiv (b : Int) = ((a / b : Nat) : Int) := by rw [Int.fdiv_eq_ediv_of_nonneg _ (Int.natCast_nonneg b)]; rfl
theorem seq_step {o : Out Fl} {k : Env → Out Fl} {P : Out Fl → Prop} (e1 : Env) (h : o = .ok .nx e1) (h2 : P (k e1)) : P (seqF o k) := by rw [h]; exact h2
theorem seq_ret {o : Out Fl} {k : Env → Out Fl} {P : Out Fl → Prop} (t : T) (e1 : Env) (h : o = .ok (.rt t) e1) (h2 : P (.ok (.rt t) e1)) : P (seqF o k) := by rw [h]; exact h2
abbrev eI (i : Int) : Option Ent := some (.own (.fz (.int i)))
abbrev eD (d : D) : Option Ent := some (.own (.fz d))
abbrev eT (d : T) : Option Ent := some (.own d)
@[simp] theorem set0 (x y : Option Ent) (e : Env) : List.set (x :: e) 0 y = y :: e := rfl
@[simp] theorem seeE_c (x : Option Ent) (e : Env) : seeE (x :: e) = seeE1 x :: seeE e := rfl
@[simp] theorem seeE_n : seeE [] = [] := rfl
@[simp] theorem see_n : seeE1 none = none := rfl
@[simp] theorem see_fz (d : D) : seeE1 (some (.own (.fz d))) = some (.own (.fz d)) := by simp [seeE1, nodic, er]
@[simp] theorem see_lst (d : List D) : seeE1 (some (.own (.lst d))) = some (.own (.fz (.lst d))) := by simp [seeE1, nodic, er]
@[simp] theorem lendE_c (x : Option Ent) (e : Env) : lendE (x :: e) = x.map lend :: lendE e := rfl
@[simp] theorem lendE_n : lendE [] = [] := rfl
@[simp] theorem lend_own (t : T) : lend (.own t) = .bor t := rfl
@[simp] theorem lend_bor (t : T) : lend (.bor t) = .bor t := rfl
@[simp] theorem rdz_b (d : D) (e : Env) : rdz 0 (some (.bor (.fz d)) :: e) = .ok d (some (.bor (.fz d)) :: e) := rfl
def pkK (env : Env) : Out D → Out D
  | .ok d _ => if atom d = true then .ok d env else .fail
  | _ => .fail
@[simp] theorem pkK_ok (env e : Env) (d : D) : pkK env (.ok d e) = if atom d = true then .ok d env else .fail := rfl
@[simp] theorem pk_c (g : Env → Out D) (x : Option Ent) (e : Env) : pk g (x :: e) = pkK (x :: e) (g (seeE (x :: e))) := rfl
@[simp] theorem atom_i (i : Int) : atom (.int i) = true := rfl
@[simp] theorem atom_b (i : Bool) : atom (.bl i) = true := rfl
@[simp] theorem atom_s (i : Str) : atom (.str i) = true := rfl
@[simp] theorem atom_n : atom .non = true := rfl
def purK {γ : Type} (env : Env) : Out γ → Out γ
  | .ok a _ => .ok a env
  | .exc x _ => .exc x env
  | .fail => .fail
@[simp] theorem purK_ok {γ : Type} (env e : Env) (d : γ) : purK env (.ok d e) = .ok d env := rfl
@[simp] theorem purK_exc {γ : Type} (env e : Env) (d : Exn) : purK env (.exc d e : Out γ) = .exc d env := rfl
@[simp] theorem pur_c {γ : Type} (g : Env → Out γ) (x : Option Ent) (e : Env) : pur g (x :: e) = purK (x :: e) (g (lendE (x :: e))) := rfl
@[simp] theorem rdo_s (i : Nat) (p : Pth) (x : Option Ent) (e : Env) : rdo (i + 1) p (x :: e) = rdo i p e := rfl
@[simp] theorem rdo_z (t : T) (e : Env) : rdo 0 [] (some (.own t) :: e) = some t := rfl
@[simp] theorem putG_z (t t' : T) (e : Env) : putG 0 [] t' (some (.own t) :: e) = some (some (.own t') :: e) := rfl
@[simp] theorem putG_s (i : Nat) (p : Pth) (t' : T) (x : Option Ent) (e : Env) : putG (i + 1) p t' (x :: e) = (putG i p t' e).map (x :: ·) := by
  unfold putG
  rw [List.getElem?_cons_succ]
  cases e[i]? with
  | none => rfl
  | some o => cases o with
    | none => rfl
    | some u => cases u with
      | bor t => rfl
      | own t =>
        simp only
        split
        · cases getP p t <;> rfl
        · rfl
@[simp] theorem appG_c (i : Nat) (p : Pth) (ga : Env → Out D) (x : Option Ent) (e : Env) : appG i p ga (x :: e) = (match rdo i p (x :: e) with
  | some (.lst ds) => (pur ga (x :: e)).bind fun d e => if ds.length < sizeLine then (match putG i p (.lst (ds ++ [d])) e with
    | some e' => .ok .nx e'
    | none => .fail) else .fail
  | _ => .fail) := rfl
@[simp] theorem addf_lst (xs ys : List D) (h : xs.length + ys.length ≤ 16777216) : addf (.lst xs) (.lst ys) = some (.lst (xs ++ ys)) := by
  have e : addL (.lst xs) (.lst ys) = some (.lst (xs ++ ys)) := if_pos h
  show orF addL (orF addT addIB) (.lst xs) (.lst ys) = _
  unfold orF
  rw [e]
@[simp] theorem see_bfz (d : D) : seeE1 (some (.bor (.fz d))) = some (.own (.fz d)) := by simp [seeE1, nodic, er]
@[simp] theorem see_blst (d : List D) : seeE1 (some (.bor (.lst d))) = some (.own (.fz (.lst d))) := by simp [seeE1, nodic, er]
@[simp] theorem asI_i (i : Int) : asI (.int i) = some i := rfl
@[simp] theorem slf_lst (d : List D) (lo hi : Option Int) : slf (.lst d) lo hi = some (.lst (cutA d lo hi)) := rfl
theorem cut_hi {γ : Type} (xs : List γ) (k : Nat) (h : k ≤ xs.length) : cutA xs none (some (k : Int)) = xs.take k := by
  unfold cutA
  rw [HT.sIx_none, HT.sIx_nat, Nat.min_eq_left h]
  simp
theorem cut_lo {γ : Type} (xs : List γ) (k : Nat) (h : k ≤ xs.length) : cutA xs (some (k : Int)) none = xs.drop k := by
  unfold cutA
  rw [HT.sIx_none, HT.sIx_nat, Nat.min_eq_left h]
  exact List.take_of_length_le (by rw [List.length_drop]; exact Nat.le_refl _)
inductive RunR {σ μ : Type} (step : σ → μ → σ → Prop) : σ → List μ → σ → Prop
  | nil {s : σ} : RunR step s [] s
  | cons {s s1 s2 : σ} {m : μ} {ms : List μ} : step s m s1 → RunR step s1 ms s2 → RunR step s (m :: ms) s2
theorem RunR.snoc {σ μ : Type} {step : σ → μ → σ → Prop} {s s1 s2 : σ} {ms : List μ} {m : μ} (h : RunR step s ms s1) (h2 : step s1 m s2) : RunR step s (ms ++ [m]) s2 := by
  induction h with
  | nil => exact .cons h2 .nil
  | cons a _ ih => exact .cons a (ih h2)
theorem forD_rel {σ μ : Type} {step : σ → μ → σ → Prop} {gt : D → Env → Option Env} {gb : Env → Out Fl} (I : σ → Env → Prop) {f : μ → D} {s s' : σ} {ms : List μ} (run : RunR step s ms s') (turn : ∀ s m s' e, step s m s' → I s e → ∃ e1 e2, gt (f m) e = some e1 ∧ gb e1 = .ok .nx e2 ∧ I s' e2) : ∀ {e : Env}, I s e → ∃ e', forD gt gb (ms.map f) e = .ok .nx e' ∧ I s' e' := by
  induction run with
  | nil => exact fun i => ⟨_, rfl, i⟩
  | cons a _ ih =>
    intro e i
    obtain ⟨e1, e2, h1, h2, h3⟩ := turn _ _ _ e a i
    obtain ⟨e', h4, h5⟩ := ih h3
    exact ⟨e', by simp only [List.map_cons, forD, h1, h2, lk_nx]; exact h4, h5⟩
theorem seq_forR {σ μ : Type} {step : σ → μ → σ → Prop} {gt : D → Env → Option Env} {gb : Env → Out Fl} {P : Out Fl → Prop} {k : Env → Out Fl} (I : σ → Env → Prop) {f : μ → D} {s s' : σ} {ms : List μ} {e : Env} (run : RunR step s ms s') (turn : ∀ s m s' e, step s m s' → I s e → ∃ e1 e2, gt (f m) e = some e1 ∧ gb e1 = .ok .nx e2 ∧ I s' e2) (start : I s e) (rest : ∀ e', I s' e' → P (k e')) : P (seqF (forD gt gb (ms.map f) e) k) := by
  obtain ⟨e', h1, h2⟩ := forD_rel I run turn start
  rw [h1]
  exact rest e' h2
@[simp] theorem iterD_lst (ds : List D) : iterD (.lst ds) = some ds := rfl
@[simp] theorem iterD_tup (ds : List D) : iterD (.tup ds) = some ds := rfl
theorem compD_map {gt : D → Env → Option Env} {gc : Env → Out Bool} {ge : Env → Out D} {vs : List Nat} {w : Env} (h : D → D) (hc : ∀ e, gc e = .ok true e) : ∀ {ds : List D} {acc : List D}, (∀ d ∈ ds, ∃ e1, gt d w = some e1 ∧ ge e1 = .ok (h d) e1 ∧ wipeE e1 vs = w) → acc.length + ds.length ≤ sizeLine → compD gt gc ge vs ds w acc = .ok (acc ++ ds.map h) w
  | [], acc, _, _ => by simp [compD]
  | d :: ds, acc, ht, hl => by
    obtain ⟨e1, h1, h2, h3⟩ := ht d (by simp)
    simp only [List.length_cons] at hl
    have ih := compD_map (gt := gt) (vs := vs) h hc (ds := ds) (acc := acc ++ [h d]) (fun d hd => ht d (by simp [hd])) (by simp; omega)
    simp only [compD, h1, hc, h2, h3]
    rw [if_pos (by omega), ih]
    simp
theorem compG_map {gi : Env → Out (List D)} {gt : D → Env → Option Env} {gc : Env → Out Bool} {ge : Env → Out D} {vs : List Nat} {env : Env} (e0 : Env) (ds : List D) (h : D → D) (hi : gi env = .ok ds e0) (hc : ∀ e, gc e = .ok true e) (ht : ∀ d ∈ ds, ∃ e1, gt d (wipeE e0 vs) = some e1 ∧ ge e1 = .ok (h d) e1 ∧ wipeE e1 vs = wipeE e0 vs) (hl : ds.length ≤ sizeLine) : compG gi gt gc ge vs env = .ok (.lst (ds.map h)) (restE e0 (wipeE e0 vs) vs) := by
  unfold compG
  rw [hi, b_ok, compD_map h hc ht (by simpa using hl)]
  rfl
@[simp] theorem forD_cons (gt : D → Env → Option Env) (gb : Env → Out Fl) (d : D) (r : List D) (e : Env) : forD gt gb (d :: r) e = (match gt d e with
  | some e => loopK (gb e) (forD gt gb r)
  | none => .fail) := rfl
theorem RunR.of_fold {σ μ : Type} {F : σ → μ → σ} : ∀ {ms : List μ} {s : σ}, RunR (fun s m s' => s' = F s m) s ms (ms.foldl F s)
  | [], s => .nil
  | m :: ms, s => .cons rfl RunR.of_fold
theorem RunR.of_foldM {σ μ : Type} {F : σ → μ → σ} {p : μ → Prop} : ∀ {ms : List μ} {s : σ}, (∀ m ∈ ms, p m) → RunR (fun s m s' => p m ∧ s' = F s m) s ms (ms.foldl F s)
  | [], s, _ => .nil
  | m :: ms, s, h => .cons ⟨h m (by simp), rfl⟩ (RunR.of_foldM fun m hm => h m (by simp [hm]))
@[simp] theorem asgG_eq (gt : D → Env → Option Env) (ge : Env → Out D) (env : Env) : asgG gt ge env = (ge env).bind fun d e => match gt d e with
  | some e' => .ok .nx e'
  | none => .fail := rfl
@[simp] theorem gtNil_eq (e : Env) : gtNil [] e = some e := rfl
@[simp] theorem gtCons_eq (g : D → Env → Option Env) (gs : List D → Env → Option Env) (d : D) (ds : List D) (e : Env) : gtCons g gs (d :: ds) e = (g d e).bind (gs ds) := rfl
@[simp] theorem gtTup2 (gs : List D → Env → Option Env) (a b : D) (e : Env) : gtTup 2 gs (.tup [a, b]) e = gs [a, b] e := rfl
@[simp] theorem gtTup3 (gs : List D → Env → Option Env) (a b c : D) (e : Env) : gtTup 3 gs (.tup [a, b, c]) e = gs [a, b, c] e := rfl
end
end DL

end
section
namespace DL
open PySem PySem.Spec PyProof.Rows L2
/-! ### values of a type, as data that can be compared -/
class Enc (α : Type) where
  d : α → D
  py : α → PyData
  fit : α → Prop
  dep : Nat
  pok : ∀ x, pyD (d x) = some (py x)
  lay : ∀ x, fit x → (py x).canLay0 = true
  dle : ∀ x, (py x).depth ≤ dep
  eqv : ∀ x y, PyData.eqv (py x) (py y) = true ↔ x = y
section
variable {α β γ : Type}
theorem pyDs_enc [Enc α] : ∀ xs : List α, pyDs (xs.map Enc.d) = some (xs.map Enc.py)
  | [] => rfl
  | x :: xs => by simp [pyDs, Enc.pok, pyDs_enc xs]
theorem lays_enc [Enc α] : ∀ xs : List α, (∀ x ∈ xs, Enc.fit x) → PyData.canLayAll0 (xs.map Enc.py) = true
  | [], _ => rfl
  | x :: xs, h => by
    simp only [List.map_cons, PyData.canLayAll0, Bool.and_eq_true]
    exact ⟨Enc.lay x (h x (by simp)), lays_enc xs fun y hy => h y (by simp [hy])⟩
theorem deps_enc [Enc α] : ∀ xs : List α, PyData.depthAll (xs.map Enc.py) ≤ Enc.dep α
  | [] => Nat.zero_le _
  | x :: xs => by
    simp only [List.map_cons, PyData.depthAll]
    exact Nat.max_le.mpr ⟨Enc.dle x, deps_enc xs⟩
theorem eqvs_enc [Enc α] : ∀ xs ys : List α, PyData.eqvAll (xs.map Enc.py) (ys.map Enc.py) = true ↔ xs = ys
  | [], [] => by simp [PyData.eqvAll]
  | [], y :: ys => by simp [PyData.eqvAll]
  | x :: xs, [] => by simp [PyData.eqvAll]
  | x :: xs, y :: ys => by simp [PyData.eqvAll, Enc.eqv, eqvs_enc xs ys]
instance : Enc Int := ⟨.int, .int, fun _ => True, 0, fun _ => rfl, fun _ _ => rfl, fun _ => Nat.le_refl _, fun x y => by simp [PyData.eqv]⟩
instance : Enc Nat := ⟨fun n => .int (n : Int), fun n => .int (n : Int), fun _ => True, 0, fun _ => rfl, fun _ _ => rfl, fun _ => Nat.le_refl _, fun x y => by simp [PyData.eqv]; omega⟩
instance : Enc Bool := ⟨.bl, .bool, fun _ => True, 0, fun _ => rfl, fun _ _ => rfl, fun _ => Nat.le_refl _, fun x y => by simp [PyData.eqv]⟩
instance : Enc Str := ⟨.str, .str, fun x => PyData.strOk x = true, 0, fun _ => rfl, fun _ h => h, fun _ => Nat.le_refl _, fun x y => by simp [PyData.eqv]⟩
instance [Enc α] : Enc (List α) := ⟨fun xs => .lst (xs.map Enc.d), fun xs => .list (xs.map Enc.py), fun xs => ∀ x ∈ xs, Enc.fit x, Enc.dep α + 1, fun xs => by simp [pyD, pyDs_enc], fun xs h => by simp only [PyData.canLay0]; exact lays_enc xs h, fun xs => by simp only [PyData.depth]; exact Nat.succ_le_succ (deps_enc xs), fun x y => by simp only [PyData.eqv]; exact eqvs_enc x y⟩
/-- a row as a tuple -/
structure Tp (α : Type) where
  xs : List α
deriving DecidableEq
instance [Enc α] : Enc (Tp α) := ⟨fun xs => .tup (xs.xs.map Enc.d), fun xs => .tuple (xs.xs.map Enc.py), fun xs => ∀ x ∈ xs.xs, Enc.fit x, Enc.dep α + 1, fun xs => by simp [pyD, pyDs_enc], fun xs h => by simp only [PyData.canLay0]; exact lays_enc _ h, fun xs => by simp only [PyData.depth]; exact Nat.succ_le_succ (deps_enc _), fun ⟨x⟩ ⟨y⟩ => by simp only [PyData.eqv, Tp.mk.injEq]; exact eqvs_enc x y⟩
/-- a pair, as a tuple of two -/
instance [Enc α] [Enc β] : Enc (α × β) := ⟨fun p => .tup [Enc.d p.1, Enc.d p.2], fun p => .tuple [Enc.py p.1, Enc.py p.2], fun p => Enc.fit p.1 ∧ Enc.fit p.2, max (Enc.dep α) (Enc.dep β) + 1,
  fun p => by simp [pyD, pyDs, Enc.pok], fun p h => by simp [PyData.canLay0, PyData.canLayAll0, Enc.lay p.1 h.1, Enc.lay p.2 h.2],
  fun p => by
    have h1 := Enc.dle p.1
    have h2 := Enc.dle p.2
    simp only [PyData.depth, PyData.depthAll]
    omega, fun ⟨a, b⟩ ⟨c, e⟩ => by simp [PyData.eqv, PyData.eqvAll, Enc.eqv]⟩
/-- three, as a tuple -/
structure P3 (α β γ : Type) where
  a : α
  b : β
  c : γ
deriving DecidableEq
instance [Enc α] [Enc β] [Enc γ] : Enc (P3 α β γ) := ⟨fun p => .tup [Enc.d p.a, Enc.d p.b, Enc.d p.c], fun p => .tuple [Enc.py p.a, Enc.py p.b, Enc.py p.c], fun p => Enc.fit p.a ∧ Enc.fit p.b ∧ Enc.fit p.c, max (Enc.dep α) (max (Enc.dep β) (Enc.dep γ)) + 1,
  fun p => by simp [pyD, pyDs, Enc.pok], fun p h => by simp [PyData.canLay0, PyData.canLayAll0, Enc.lay p.a h.1, Enc.lay p.b h.2.1, Enc.lay p.c h.2.2],
  fun p => by
    have h1 := Enc.dle p.a
    have h2 := Enc.dle p.b
    have h3 := Enc.dle p.c
    simp only [PyData.depth, PyData.depthAll]
    omega, fun ⟨a, b, c⟩ ⟨a', b', c'⟩ => by simp [PyData.eqv, PyData.eqvAll, Enc.eqv]⟩
/-- of two kinds that are never alike -/
class Apart (α β : Type) [Enc α] [Enc β] : Prop where
  l : ∀ (x : α) (y : β), PyData.eqv (Enc.py x) (Enc.py y) = false
  r : ∀ (x : α) (y : β), PyData.eqv (Enc.py y) (Enc.py x) = false
instance [Enc α] [Enc β] [Apart α β] : Enc (α ⊕ β) := ⟨fun x => match x with
    | .inl a => Enc.d a
    | .inr b => Enc.d b, fun x => match x with
    | .inl a => Enc.py a
    | .inr b => Enc.py b, fun x => match x with
    | .inl a => Enc.fit a
    | .inr b => Enc.fit b, max (Enc.dep α) (Enc.dep β), fun x => by cases x <;> simp [Enc.pok], fun x h => by cases x <;> exact Enc.lay _ h,
  fun x => by
    cases x with
    | inl a => exact Nat.le_trans (Enc.dle a) (Nat.le_max_left _ _)
    | inr a => exact Nat.le_trans (Enc.dle a) (Nat.le_max_right _ _), fun x y => by cases x <;> cases y <;> simp [Enc.eqv, Apart.l, Apart.r]⟩
instance : Apart Int Str := ⟨fun _ _ => rfl, fun _ _ => rfl⟩
instance : Apart Nat Str := ⟨fun _ _ => rfl, fun _ _ => rfl⟩
instance [Enc α] [Enc β] : Apart Nat (α × β) := ⟨fun _ _ => rfl, fun _ _ => rfl⟩
/-- what is never None -/
class NoNone (α : Type) [Enc α] : Prop where
  h : ∀ x : α, Enc.py x ≠ .none
theorem eqv_none (p : PyData) (h : p ≠ .none) : PyData.eqv .none p = false ∧ PyData.eqv p .none = false := by
  cases p <;> simp [PyData.eqv] at h ⊢
instance [Enc α] [NoNone α] : Enc (Option α) := ⟨fun x => match x with
    | none => .non
    | some a => Enc.d a, fun x => match x with
    | none => .none
    | some b => Enc.py b, fun x => match x with
    | none => True
    | some b => Enc.fit b, Enc.dep α, fun x => by cases x <;> simp [Enc.pok, pyD], fun x h => by
      cases x with
      | none => rfl
      | some a => exact Enc.lay _ h,
  fun x => by
    cases x with
    | none => exact Nat.zero_le _
    | some a => exact Enc.dle a, fun x y => by
    cases x <;> cases y
    · simp [PyData.eqv]
    · rename_i a; simp [(eqv_none _ (NoNone.h a)).1]
    · rename_i a; simp [(eqv_none _ (NoNone.h a)).2]
    · simp [Enc.eqv]⟩
instance : NoNone Int := ⟨fun _ h => nomatch h⟩
instance : NoNone Nat := ⟨fun _ h => nomatch h⟩
instance : NoNone Bool := ⟨fun _ h => nomatch h⟩
instance : NoNone Str := ⟨fun _ h => nomatch h⟩
instance [Enc α] : NoNone (List α) := ⟨fun _ h => nomatch h⟩
instance [Enc α] : NoNone (Tp α) := ⟨fun _ h => nomatch h⟩
instance [Enc α] [Enc β] : NoNone (α × β) := ⟨fun _ h => nomatch h⟩
instance [Enc α] [Enc β] [Enc γ] : NoNone (P3 α β γ) := ⟨fun _ h => nomatch h⟩
instance [Enc α] [Enc β] [Apart α β] [NoNone α] [NoNone β] : NoNone (α ⊕ β) := ⟨fun x h => by
  cases x with
  | inl a => exact NoNone.h a h
  | inr a => exact NoNone.h a h⟩
theorem shaped_enc [Enc α] (x : α) (h : Enc.fit x) (hd : Enc.dep α ≤ 64) : SeqAt.shaped (Enc.py x) = true := by
  have h1 := Enc.lay x h
  have h2 := Enc.dle x
  simp only [SeqAt.shaped, h1, Bool.true_and, decide_eq_true_eq]
  omega
/-- == -/
theorem eqf_enc [Enc α] [DecidableEq α] (x y : α) (hx : Enc.fit x) (hy : Enc.fit y) (hd : Enc.dep α ≤ 64 := by decide) : eqf (Enc.d x) (Enc.d y) = some (.bl (decide (x = y))) := by
  unfold eqf
  rw [Enc.pok, Enc.pok]
  simp only [shaped_enc x hx hd, shaped_enc y hy hd, and_self, if_true]
  congr 2
  have := Enc.eqv x y
  cases h : PyData.eqv (Enc.py x) (Enc.py y) with
  | false => rw [h] at this; exact (decide_eq_false fun z => by simpa using this.mpr z).symm
  | true => rw [h] at this; exact (decide_eq_true (this.mp rfl)).symm
theorem orf_enc [Enc α] [DecidableEq α] (g : D → D → Option D) (x y : α) (hx : Enc.fit x) (hy : Enc.fit y) (hd : Enc.dep α ≤ 64 := by decide) : orF eqf g (Enc.d x) (Enc.d y) = some (.bl (decide (x = y))) := o_some (eqf_enc x y hx hy hd)
theorem nef_enc [Enc α] [DecidableEq α] (x y : α) (hx : Enc.fit x) (hy : Enc.fit y) (hd : Enc.dep α ≤ 64 := by decide) : nef (Enc.d x) (Enc.d y) = some (.bl (decide (x ≠ y))) := by
  have h := eqf_enc x y hx hy hd
  unfold eqf at h
  unfold nef
  rw [Enc.pok, Enc.pok] at h ⊢
  simp only [shaped_enc x hx hd, shaped_enc y hy hd, and_self, if_true] at h ⊢
  simp only [Option.some.injEq, D.bl.injEq] at h
  rw [h]
  simp
/-- in a list -/
theorem inDeep_enc [Enc α] [DecidableEq α] (x : α) (ys : List α) (hx : Enc.fit x) (hy : ∀ y ∈ ys, Enc.fit y) (hd : Enc.dep α ≤ 63 := by decide) : inDeep (Enc.d x) (.lst (ys.map Enc.d)) = some (decide (x ∈ ys)) := by
  unfold inDeep
  have e : pyD (.lst (ys.map Enc.d)) = some (.list (ys.map Enc.py)) := by simp [pyD, pyDs_enc]
  rw [Enc.pok, e]
  have h2 : SeqAt.shaped (.list (ys.map Enc.py)) = true := shaped_enc (α := List α) ys hy (by show Enc.dep α + 1 ≤ 64; omega)
  simp only [shaped_enc x hx (by omega), h2, and_self, if_true]
  congr 1
  rw [List.any_map]
  rw [Bool.eq_iff_iff]
  simp only [List.any_eq_true, Function.comp, Enc.eqv, decide_eq_true_eq]
  exact ⟨fun ⟨z, h1, h2⟩ => h2 ▸ h1, fun h => ⟨x, h, rfl⟩⟩
theorem flats_none : ∀ {ds : List D}, (∃ d ∈ ds, flatD d = none) → flats ds = none
  | d :: ds, ⟨y, h, e⟩ => by
    simp only [flats]
    rcases List.mem_cons.mp h with rfl | h
    · rw [e]
    · rw [flats_none ⟨y, h, e⟩]
      cases flatD d <;> rfl
theorem inf_enc [Enc α] [DecidableEq α] (x : α) (ys : List α) (hx : Enc.fit x) (hy : ∀ y ∈ ys, Enc.fit y) (hf : flatD (Enc.d x) = none ∨ ∃ y ∈ ys, flatD (Enc.d y) = none) (hd : Enc.dep α ≤ 63 := by decide) : inf (Enc.d x) (.lst (ys.map Enc.d)) = some (.bl (decide (x ∈ ys))) ∧ ninf (Enc.d x) (.lst (ys.map Enc.d)) = some (.bl (decide (x ∉ ys))) := by
  have h1 : inFlat (Enc.d x) (.lst (ys.map Enc.d)) = none := by
    rcases hf with hf | ⟨y, h, hf⟩
    · simp [inFlat, hf]
    · have : flats (ys.map Enc.d) = none := flats_none ⟨_, List.mem_map_of_mem h, hf⟩
      simp only [inFlat, rowD, Option.bind_some, this]
      cases flatD (Enc.d x) <;> rfl
  have h2 : inStr (Enc.d x) (.lst (ys.map Enc.d)) = none := by
    unfold inStr
    cases Enc.d x <;> rfl
  unfold inf ninf orF
  rw [h1]
  simp only [h2, inDeep_enc x ys hx hy hd]
  exact ⟨rfl, by simp⟩
theorem inf_encB [Enc α] [DecidableEq α] (x : α) (ys : List α) (b : Bool) (hb : x ∈ ys ↔ b = true) (hx : Enc.fit x) (hy : ∀ y ∈ ys, Enc.fit y) (hf : flatD (Enc.d x) = none ∨ ∃ y ∈ ys, flatD (Enc.d y) = none) (hd : Enc.dep α ≤ 63 := by decide) : inf (Enc.d x) (.lst (ys.map Enc.d)) = some (.bl b) ∧ ninf (Enc.d x) (.lst (ys.map Enc.d)) = some (.bl (!b)) := by
  obtain ⟨h1, h2⟩ := inf_enc x ys hx hy hf hd
  rw [h1, h2]
  cases b with
  | false =>
    have h : x ∉ ys := fun w => by have := hb.mp w; cases this
    simp [h]
  | true =>
    have h : x ∈ ys := hb.mpr rfl
    simp [h]
/-- of flat values -/
class EncF (α : Type) extends Enc α where
  v : α → V
  fl : ∀ x, flatD (d x) = some (v x)
  ve : ∀ x y, eqV (v x) (v y) = true ↔ x = y
instance : EncF Int := { (inferInstance : Enc Int) with v := .int, fl := fun _ => rfl, ve := fun x y => by simp [eqV] }
instance : EncF Nat := { (inferInstance : Enc Nat) with v := fun n => .int (n : Int), fl := fun _ => rfl, ve := fun x y => by simp [eqV]; omega }
instance : EncF Str := { (inferInstance : Enc Str) with v := .str, fl := fun _ => rfl, ve := fun x y => by simp [eqV] }
theorem flats_enc [EncF α] : ∀ xs : List α, flats (xs.map Enc.d) = some (xs.map EncF.v)
  | [] => rfl
  | x :: xs => by simp [flats, EncF.fl, flats_enc xs]
theorem inFlat_enc [EncF α] [DecidableEq α] (x : α) (ys : List α) (d : D) (hd : rowD d = some (ys.map Enc.d)) : inFlat (Enc.d x) d = some (decide (x ∈ ys)) := by
  unfold inFlat
  rw [EncF.fl, hd, Option.bind_some, flats_enc]
  simp only [Option.some.injEq]
  unfold inV
  rw [List.any_map, Bool.eq_iff_iff]
  simp only [List.any_eq_true, Function.comp, EncF.ve, decide_eq_true_eq]
  exact ⟨fun ⟨z, h1, h2⟩ => h2 ▸ h1, fun h => ⟨x, h, rfl⟩⟩
theorem inf_flat [EncF α] [DecidableEq α] (x : α) (ys : List α) (d : D) (hd : rowD d = some (ys.map Enc.d)) : inf (Enc.d x) d = some (.bl (decide (x ∈ ys))) ∧ ninf (Enc.d x) d = some (.bl (decide (x ∉ ys))) := by
  unfold inf ninf orF
  rw [inFlat_enc x ys d hd]
  exact ⟨rfl, by simp⟩
theorem str_eq (x y : Str) (hx : PyData.strOk x = true) (hy : PyData.strOk y = true) : orF eqf eqL (.str x) (.str y) = some (.bl (decide (x = y))) := orf_enc (α := Str) eqL x y hx hy
theorem int_eq (x y : Int) : orF eqf eqL (.int x) (.int y) = some (.bl (decide (x = y))) := orf_enc (α := Int) eqL x y trivial trivial
theorem str_ne (x y : Str) (hx : PyData.strOk x = true) (hy : PyData.strOk y = true) : nef (.str x) (.str y) = some (.bl (decide (x ≠ y))) := nef_enc (α := Str) x y hx hy
theorem int_ne (x y : Int) : nef (.int x) (.int y) = some (.bl (decide (x ≠ y))) := nef_enc (α := Int) x y trivial trivial
theorem str_in (x : Str) (ys : List Str) : inf (.str x) (.tup (ys.map .str)) = some (.bl (decide (x ∈ ys))) := (inf_flat (α := Str) x ys _ rfl).1
def mcB {α : Type} (o : Option (List T → FO)) (k : (List T → FO) → Out α) : Out α := match o with
  | none => .fail
  | some sem => k sem
@[simp] theorem mcB_some {α : Type} (sem : List T → FO) (k : (List T → FO) → Out α) : mcB (some sem) k = k sem := rfl
@[simp] theorem callM_eq (n : Nat) (ms : MS) (m : Str) (ga : Env → Out D) (gs : Env → Out (List D)) (env : Env) : callM n ms m ga gs env = (ga env).bind fun d e => mcB (pick ms m (.fz d)) fun sem => (gs e).bind fun ds e => match fo n sem (.fz d :: ds.map T.fz) with
    | .ok t _ => .ok t e
    | .exc x => .exc x e
    | .fail => .fail := by
  unfold callM
  congr 1
end
def frz1 (i : Nat) (env : Env) : Env := match env[i]? with
  | some (some (Ent.own t)) => env.set i (some (Ent.own (.fz (er t))))
  | _ => env
def frzA (i : Nat) : Out Fl → Out Fl
  | .ok .nx e => .ok .nx (frz1 i e)
  | o => o
@[simp] theorem frz1_s (i : Nat) (x : Option Ent) (e : Env) : frz1 (i + 1) (x :: e) = x :: frz1 i e := by
  unfold frz1
  rw [List.getElem?_cons_succ]
  cases h : e[i]? with
  | none => rfl
  | some o => cases o with
    | none => rfl
    | some u => cases u <;> rfl
@[simp] theorem frz1_z (t : T) (e : Env) : frz1 0 (some (.own t) :: e) = some (.own (.fz (er t))) :: e := rfl
@[simp] theorem frzA_nx (i : Nat) (e : Env) : frzA i (.ok .nx e) = .ok .nx (frz1 i e) := rfl
@[simp] theorem frzA_rt (i : Nat) (t : T) (e : Env) : frzA i (.ok (.rt t) e) = .ok (.rt t) e := rfl
@[simp] theorem frzA_exc (i : Nat) (x : Exn) (e : Env) : frzA i (.exc x e) = .exc x e := rfl
/-! ### comprehensions -/
section
variable {gi gi1 : Env → Out (List D)} {gt gt1 : D → Env → Option Env} {gc gc1 : Env → Out Bool} {ge : Env → Out D} {vs vs1 : List Nat} {w : Env}
theorem compD_fm (h : D → Option D) : ∀ {ds acc : List D}, (∀ d ∈ ds, ∃ e1, gt d w = some e1 ∧ ∃ b e2, gc e1 = .ok b e2 ∧ (b = false → h d = none ∧ wipeE e2 vs = w) ∧ (b = true → ∃ y e3, ge e2 = .ok y e3 ∧ h d = some y ∧ wipeE e3 vs = w)) → acc.length + ds.length ≤ sizeLine → compD gt gc ge vs ds w acc = .ok (acc ++ ds.filterMap h) w
  | [], acc, _, _ => by simp [compD]
  | d :: ds, acc, ht, hl => by
    obtain ⟨e1, h1, b, e2, h2, hf, htr⟩ := ht d (by simp)
    simp only [List.length_cons] at hl
    cases b with
    | false =>
      obtain ⟨q1, q2⟩ := hf rfl
      have ih := compD_fm h (ds := ds) (acc := acc) (fun d hd => ht d (by simp [hd])) (by omega)
      simp only [compD, h1, h2, q2, ih]
      simp [q1]
    | true =>
      obtain ⟨y, e3, q0, q1, q2⟩ := htr rfl
      have ih := compD_fm h (ds := ds) (acc := acc ++ [y]) (fun d hd => ht d (by simp [hd])) (by simp; omega)
      simp only [compD, h1, h2, q0, q2]
      rw [if_pos (by omega), ih]
      simp [q1]
theorem compG_fm {env : Env} (e0 : Env) (ds : List D) (h : D → Option D) (hi : gi env = .ok ds e0) (ht : ∀ d ∈ ds, ∃ e1, gt d (wipeE e0 vs) = some e1 ∧ ∃ b e2, gc e1 = .ok b e2 ∧ (b = false → h d = none ∧ wipeE e2 vs = wipeE e0 vs) ∧ (b = true → ∃ y e3, ge e2 = .ok y e3 ∧ h d = some y ∧ wipeE e3 vs = wipeE e0 vs)) (hl : ds.length ≤ sizeLine) : compG gi gt gc ge vs env = .ok (.lst (ds.filterMap h)) (restE e0 (wipeE e0 vs) vs) := by
  unfold compG
  rw [hi, b_ok, compD_fm h ht (by simpa using hl)]
  rfl
theorem compD2_fm (H : D → List D) : ∀ {ds acc : List D}, (∀ d ∈ ds, ∀ acc : List D, acc.length + (H d).length ≤ sizeLine → ∃ e1 e2 ds1 e3 e4, gt d w = some e1 ∧ gc e1 = .ok true e2 ∧ gi1 e2 = .ok ds1 e3 ∧ compD gt1 gc1 ge vs1 ds1 (wipeE e3 vs1) acc = .ok (acc ++ H d) e4 ∧ wipeE e4 vs = w) → acc.length + (ds.flatMap H).length ≤ sizeLine → compD2 gt gc gi1 gt1 gc1 ge vs vs1 ds w acc = .ok (acc ++ ds.flatMap H) w
  | [], acc, _, _ => by simp [compD2]
  | d :: ds, acc, ht, hl => by
    rw [List.flatMap_cons, List.length_append] at hl
    obtain ⟨e1, e2, ds1, e3, e4, h1, h2, h3, h4, h5⟩ := ht d (by simp) acc (by omega)
    have ih := compD2_fm H (ds := ds) (acc := acc ++ H d) (fun d hd => ht d (by simp [hd])) (by rw [List.length_append]; omega)
    simp only [compD2, h1, h2, h3, h4, h5, ih]
    simp
theorem compG2_fm {env : Env} (e0 : Env) (ds : List D) (H : D → List D) (hi : gi env = .ok ds e0) (ht : ∀ d ∈ ds, ∀ acc : List D, acc.length + (H d).length ≤ sizeLine → ∃ e1 e2 ds1 e3 e4, gt d (wipeE e0 vs) = some e1 ∧ gc e1 = .ok true e2 ∧ gi1 e2 = .ok ds1 e3 ∧ compD gt1 gc1 ge vs1 ds1 (wipeE e3 vs1) acc = .ok (acc ++ H d) e4 ∧ wipeE e4 vs = wipeE e0 vs) (hl : (ds.flatMap H).length ≤ sizeLine) : compG2 gi gt gc gi1 gt1 gc1 ge vs vs1 env = .ok (.lst (ds.flatMap H)) (restE e0 (wipeE e0 vs) vs) := by
  unfold compG2
  rw [hi, b_ok, compD2_fm H ht (by simpa using hl)]
  rfl
end
@[simp] theorem augG_c (i : Nat) (ga : Env → Out D) (x : Option Ent) (e : Env) : augG i ga (x :: e) = (match rdo i [] (x :: e) with
  | some (.lst ds) => (pur ga (x :: e)).bind fun d e => match d with
    | .lst es => if ds.length + es.length ≤ sizeLine then (match putG i [] (.lst (ds ++ es)) e with
      | some e' => .ok .nx e'
      | none => .fail) else .fail
    | _ => .fail
  | _ => .fail) := rfl
def tcB {α : Type} (o : Option T) (k : T → Out α) : Out α := match o with
  | none => .fail
  | some t => k t
@[simp] theorem tcB_some {α : Type} (t : T) (k : T → Out α) : tcB (some t) k = k t := rfl
@[simp] theorem callMio_c (n : Nat) (ms : MS) (m : Str) (i : Nat) (p : Pth) (gs : Env → Out (List D)) (x : Option Ent) (e : Env) : callMio n ms m i p gs (x :: e) = tcB (rdo i p (x :: e)) fun t => mcB (pick ms m t) fun sem => (pur gs (x :: e)).bind fun ds e => afterIO n sem i p t e ds := by
  unfold callMio tcB
  cases rdo i p (x :: e) with
  | none => rfl
  | some t =>
    simp only
    unfold mcB
    cases pick ms m t <;> rfl
theorem forD_relA {σ μ : Type} {step : σ → μ → σ → Prop} {gt : D → Env → Option Env} {gb : Env → Out Fl} (I : σ → Env → Prop) {f : μ → D} {s s' : σ} {ms : List μ} (run : RunR step s ms s') (turn : ∀ s m s' e, step s m s' → I s e → ∃ e1 e2, gt (f m) e = some e1 ∧ gb e1 = .ok .nx e2 ∧ I s' e2) : ∀ {e : Env}, I s e → ∃ e', (∀ ys, forD gt gb (ms.map f ++ ys) e = forD gt gb ys e') ∧ I s' e' := by
  induction run with
  | nil => exact fun i => ⟨_, fun _ => rfl, i⟩
  | cons a _ ih =>
    intro e i
    obtain ⟨e1, e2, h1, h2, h3⟩ := turn _ _ _ e a i
    obtain ⟨e', h4, h5⟩ := ih h3
    exact ⟨e', fun ys => by simp only [List.map_cons, List.cons_append, forD, h1, h2, lk_nx]; exact h4 ys, h5⟩
theorem whileD_go {gc : Env → Out Bool} {gb : Env → Out Fl} {k : Nat} {e e1 e2 : Env} (h1 : gc e = .ok true e1) (h2 : gb e1 = .ok .nx e2) : whileD gc gb (k + 1) e = whileD gc gb k e2 := by
  conv => lhs; unfold whileD
  rw [h1, b_ok, if_pos rfl, h2, lk_nx]
theorem whileD_end {gc : Env → Out Bool} {gb : Env → Out Fl} {k : Nat} {e e1 : Env} (h1 : gc e = .ok false e1) : whileD gc gb (k + 1) e = .ok .nx e1 := by
  conv => lhs; unfold whileD
  rw [h1, b_ok, if_neg (by decide)]
theorem nef_self {α : Type} [Enc α] [DecidableEq α] (x : α) (hx : Enc.fit x) (hd : Enc.dep α ≤ 64 := by decide) : nef (Enc.d x) (Enc.d x) = some (.bl false) := by
  rw [nef_enc x x hx hx hd]
  simp
theorem io2 {n i : Nat} {sem : List T → FO} {gs : Env → Out (List D)} {env e e' : Env} {t t' t0 : T} {ds : List D} {ret : T} {xs : List (Option T)} (h0 : rdo i [] env = some t0) (h1 : gs env = .ok ds e) (h2 : rdo i [] e = some t) (h3 : fo n sem (t :: ds.map T.fz) = .ok ret (some t' :: xs)) (h4 : putG i [] t' e = some e') : callIO2 n sem i gs env = .ok ret e' := by
  unfold callIO2 afterIO
  rw [h0, h1]
  simp only [b_ok, h2, h3, h4]
theorem orf_self {α : Type} [Enc α] [DecidableEq α] (g : D → D → Option D) (x : α) (hx : Enc.fit x) (hd : Enc.dep α ≤ 64 := by decide) : orF eqf g (Enc.d x) (Enc.d x) = some (.bl true) := by
  rw [orf_enc g x x hx hx hd]
  simp
@[simp] theorem callM0_eq (n : Nat) (ms : MS) (m : Str) (ga : Env → Out D) (env : Env) : callM0 n ms m ga env = (ga env).bind fun d e => mcB (pick ms m (.fz d)) fun sem => match fo n sem [.fz d] with
    | .ok t _ => .ok t e
    | .exc x => .exc x e
    | .fail => .fail := by
  unfold callM0
  congr 1
@[simp] theorem small4 {γ : Type} (a b c d : γ) : small [a, b, c, d] = true := rfl
@[simp] theorem small5 {γ : Type} (a b c d e : γ) : small [a, b, c, d, e] = true := rfl
@[simp] theorem small6 {γ : Type} (a b c d e f : γ) : small [a, b, c, d, e, f] = true := rfl
@[simp] theorem small7 {γ : Type} (a b c d e f g : γ) : small [a, b, c, d, e, f, g] = true := rfl
@[simp] theorem small8 {γ : Type} (a b c d e f g h : γ) : small [a, b, c, d, e, f, g, h] = true := rfl
@[simp] theorem small9 {γ : Type} (a b c d e f g h i : γ) : small [a, b, c, d, e, f, g, h, i] = true := rfl
end DL

end
section
namespace DL
open PySem PySem.Spec PyProof.Rows L2
variable [TB]
/-! ### slots frozen behind a statement -/
section
variable {X : Cx} {G : Tx} {W : WX} {C : DCtx} {st : Stmt} {g : Env → Out Fl}
theorem Rep.frz1 {F H : Hp} {σ : L2.St} {env : Env} (i : Nat) (r : Rep G C F H σ env) : ∃ F', Gr F F' ∧ Rep G C F' H σ (DL.frz1 i env) := by
  unfold DL.frz1
  split
  · rename_i t e
    exact Rep.frz r e
  · exact ⟨F, .refl F, r⟩
theorem ds_frzA (i : Nat) (h : DS X G W C st g) : DS X G W C st (fun env => frzA i (g env)) := PS_imp h fun N σ H ⟨F, env, rp, q⟩ => ⟨F, env, rp, by
  have q : pS G W C N F (frzA i (g env)) := q
  cases e : g env with
  | fail => rw [e] at q; exact q
  | exc x e' => rw [e] at q; exact q
  | ok a e' =>
    rw [e] at q
    cases a with
    | nx =>
      intro σ1 H1 F1 gr r
      obtain ⟨F2, g2, r2⟩ := Rep.frz1 i r
      exact q σ1 H1 F2 (gr.trans g2) r2
    | bk => exact q
    | ct => exact q
    | rt t => exact q⟩
end
end DL

end
section
namespace K02
open PySem PySem.Spec PyProof.Rows L2 DL LamX
abbrev pw : Program := PySem.Challenge.pw_promisewraps_k02_whole_courses
def top (i : Nat) : Stmt := pw.main.body.getD i (.Pass ⟨0, 0, 0, 0⟩)
def dSt : Stmt := .Pass ⟨0, 0, 0, 0⟩
def dEx : Expr := .Constant .none 0 ⟨0, 0, 0, 0⟩
def exTup (e : Expr) (j : Nat) : Expr := match e with
  | .Tuple es _ _ => es.getD j dEx
  | _ => dEx
def exLst (e : Expr) (j : Nat) : Expr := match e with
  | .List es _ => es.getD j dEx
  | _ => dEx
def exArg (e : Expr) (j : Nat) : Expr := match e with
  | .Call _ es _ _ => es.getD j dEx
  | _ => dEx
def exCmpL (e : Expr) : Expr := match e with
  | .Compare a _ _ _ => a
  | _ => dEx
def exCmpR (e : Expr) (j : Nat) : Expr := match e with
  | .Compare _ _ es _ => es.getD j dEx
  | _ => dEx
def exBinL (e : Expr) : Expr := match e with
  | .BinOp a _ _ _ => a
  | _ => dEx
def exBinR (e : Expr) : Expr := match e with
  | .BinOp _ _ a _ => a
  | _ => dEx
def exBool (e : Expr) (j : Nat) : Expr := match e with
  | .BoolOp _ es _ => es.getD j dEx
  | _ => dEx
def exUn (e : Expr) : Expr := match e with
  | .UnaryOp _ a _ => a
  | _ => dEx
def stIter (s : Stmt) : Expr := match s with
  | .For _ e _ _ _ => e
  | _ => dEx
def stTest (s : Stmt) : Expr := match s with
  | .If e _ _ _ => e
  | _ => dEx
def stVal (s : Stmt) : Expr := match s with
  | .Assign _ e _ => e
  | .Return (some e) _ => e
  | .Expr e _ => e
  | _ => dEx
def stBody (s : Stmt) (j : Nat) : Stmt := match s with
  | .For _ _ b _ _ => b.getD j dSt
  | .If _ b _ _ => b.getD j dSt
  | .Try b _ _ _ _ => b.getD j dSt
  | _ => dSt
def stElse (s : Stmt) (j : Nat) : Stmt := match s with
  | .If _ _ b _ => b.getD j dSt
  | _ => dSt
def lamOf (q : Str) (e : Expr) : LamT := match e with
  | .Lambda ps b sc _ => ⟨q, ps, b, sc⟩
  | _ => ⟨q, defArgs dSt, dEx, defScope dSt⟩
abbrev s_BadCourse___init__ : Stmt := (inClass (top 2) 0)
theorem sc_BadCourse___init__ : FnScope ["self", "number"] ["self", "number"] (defScope s_BadCourse___init__) := ⟨rfl, rfl, rfl, by decide +kernel, rfl, by decide +kernel, by decide +kernel⟩
abbrev s_is_row : Stmt := (top 4)
theorem sc_is_row : FnScope ["thing"] ["thing"] (defScope s_is_row) := ⟨rfl, rfl, rfl, by decide +kernel, rfl, by decide +kernel, by decide +kernel⟩
abbrev s_is_number : Stmt := (top 5)
theorem sc_is_number : FnScope ["thing"] ["thing"] (defScope s_is_number) := ⟨rfl, rfl, rfl, by decide +kernel, rfl, by decide +kernel, by decide +kernel⟩
abbrev s_is_below : Stmt := (top 6)
theorem sc_is_below : FnScope ["thing", "bound"] ["thing", "bound"] (defScope s_is_below) := ⟨rfl, rfl, rfl, by decide +kernel, rfl, by decide +kernel, by decide +kernel⟩
abbrev s_Value___init__ : Stmt := (inClass (top 9) 0)
theorem sc_Value___init__ : FnScope ["self", "shape", "giver", "origin"] ["self", "shape", "giver", "origin"] (defScope s_Value___init__) := ⟨rfl, rfl, rfl, by decide +kernel, rfl, by decide +kernel, by decide +kernel⟩
abbrev s_Value___eq__ : Stmt := (inClass (top 9) 1)
theorem sc_Value___eq__ : FnScope ["self", "other"] ["self", "other"] (defScope s_Value___eq__) := ⟨rfl, rfl, rfl, by decide +kernel, rfl, by decide +kernel, by decide +kernel⟩
abbrev s_Course___init__ : Stmt := (inClass (top 10) 0)
theorem sc_Course___init__ : FnScope ["self", "size"] ["self", "size"] (defScope s_Course___init__) := ⟨rfl, rfl, rfl, by decide +kernel, rfl, by decide +kernel, by decide +kernel⟩
abbrev s_Course_is_shape : Stmt := (inClass (top 10) 1)
theorem sc_Course_is_shape : FnScope ["self", "shape"] ["self", "shape"] (defScope s_Course_is_shape) := ⟨rfl, rfl, rfl, by decide +kernel, rfl, by decide +kernel, by decide +kernel⟩
abbrev s_Course_can : Stmt := (inClass (top 10) 2)
theorem sc_Course_can : FnScope ["self", "move", "word"] ["self", "move"] (defScope s_Course_can) := ⟨rfl, rfl, rfl, by decide +kernel, rfl, by decide +kernel, by decide +kernel⟩
abbrev s_Course_make : Stmt := (inClass (top 10) 3)
theorem sc_Course_make : FnScope ["self", "move", "word", "number", "giver", "place"] ["self", "move"] (defScope s_Course_make) := ⟨rfl, rfl, rfl, by decide +kernel, rfl, by decide +kernel, by decide +kernel⟩
abbrev s_Course_could : Stmt := (inClass (top 10) 4)
theorem sc_Course_could : FnScope ["self", "shapes", "shape", "found", "number", "value", "words", "word", "is_answered"] ["self"] (defScope s_Course_could) := ⟨rfl, rfl, rfl, by decide +kernel, rfl, by decide +kernel, by decide +kernel⟩
abbrev s_made : Stmt := (top 11)
theorem sc_made : FnScope ["size", "moves", "found", "move"] ["size", "moves"] (defScope s_made) := ⟨rfl, rfl, rfl, by decide +kernel, rfl, by decide +kernel, by decide +kernel⟩
abbrev s_is_course : Stmt := (top 12)
theorem sc_is_course : FnScope ["size", "moves"] ["size", "moves"] (defScope s_is_course) := ⟨rfl, rfl, rfl, by decide +kernel, rfl, by decide +kernel, by decide +kernel⟩
abbrev s_path_of : Stmt := (top 13)
theorem sc_path_of : FnScope ["course", "number", "found", "place"] ["course", "number"] (defScope s_path_of) := ⟨rfl, rfl, rfl, by decide +kernel, rfl, by decide +kernel, by decide +kernel⟩
abbrev s_law_number : Stmt := (top 15)
theorem sc_law_number : FnScope ["script", "index", "cell", "turn", "rest", "step", "blend"] ["script", "index"] (defScope s_law_number) := ⟨rfl, rfl, rfl, by decide +kernel, rfl, by decide +kernel, by decide +kernel⟩
abbrev s_law_take : Stmt := (top 16)
theorem sc_law_take : FnScope ["draw", "many"] ["draw", "many"] (defScope s_law_take) := ⟨rfl, rfl, rfl, by decide +kernel, rfl, by decide +kernel, by decide +kernel⟩
abbrev s_law_pick : Stmt := (top 17)
theorem sc_law_pick : FnScope ["draw", "items"] ["draw", "items"] (defScope s_law_pick) := ⟨rfl, rfl, rfl, by decide +kernel, rfl, by decide +kernel, by decide +kernel⟩
abbrev s_law_shapes : Stmt := (top 18)
theorem sc_law_shapes : FnScope ["told"] ["told"] (defScope s_law_shapes) := ⟨rfl, rfl, rfl, by decide +kernel, rfl, by decide +kernel, by decide +kernel⟩
abbrev s_law_things : Stmt := (top 19)
theorem sc_law_things : FnScope ["moves", "things", "calls", "move", "owner", "giver"] ["moves"] (defScope s_law_things) := ⟨rfl, rfl, rfl, by decide +kernel, rfl, by decide +kernel, by decide +kernel⟩
abbrev s_law_could : Stmt := (top 20)
theorem sc_law_could : FnScope ["told", "moves", "shapes", "shape", "things", "calls", "found", "number", "giver", "origin", "word", "one", "owner", "is_answered"] ["told", "moves"] (defScope s_law_could) := ⟨rfl, rfl, rfl, by decide +kernel, rfl, by decide +kernel, by decide +kernel⟩
abbrev s_law_course : Stmt := (top 21)
theorem sc_law_course : FnScope ["draw", "told", "many", "found", "turn"] ["draw", "told", "many"] (defScope s_law_course) := ⟨rfl, rfl, rfl, by decide +kernel, rfl, by decide +kernel, by decide +kernel⟩
abbrev s_law_path : Stmt := (top 22)
theorem sc_law_path : FnScope ["things", "number", "found", "turn", "place"] ["things", "number"] (defScope s_law_path) := ⟨rfl, rfl, rfl, by decide +kernel, rfl, by decide +kernel, by decide +kernel⟩
abbrev s_law_first_bad : Stmt := (top 23)
theorem sc_law_first_bad : FnScope ["told", "late", "at"] ["told", "late"] (defScope s_law_first_bad) := ⟨rfl, rfl, rfl, by decide +kernel, rfl, by decide +kernel, by decide +kernel⟩
abbrev s_law : Stmt := (top 24)
theorem sc_law : FnScope ["script", "draw", "told", "moves", "course", "things", "calls", "one", "shape", "giver", "origin", "move", "number", "words", "shapes", "turn", "rows", "can", "spot", "late", "bad", "fault", "word", "empty", "deed"] ["script"] (defScope s_law) := ⟨rfl, rfl, rfl, by decide +kernel, rfl, by decide +kernel, by decide +kernel⟩
def lmT (n : Nat) : LamT := match n with
  | 0 => lamOf "law.<locals>.<lambda>" (exTup (stIter ((defBody s_law).getD 14 dSt)) 0)
  | 1 => lamOf "law.<locals>.<lambda>" (exTup (stIter ((defBody s_law).getD 14 dSt)) 1)
  | _ => lamOf "law.<locals>.<lambda>" (exTup (stIter ((defBody s_law).getD 14 dSt)) 2)
abbrev cs_calls : List Nat := [3]
abbrev cs_giver : List Nat := [2]
abbrev cs_held : List Nat := [3]
abbrev cs_moves : List Nat := [3]
abbrev cs_origin : List Nat := [2]
abbrev cs_shape : List Nat := [2]
abbrev cs_size : List Nat := [3]
abbrev cx_number : List Nat := [1]
def is_BadCourse (c : Nat) : Option Bool := [(1, true)].lookup c
abbrev tt_Value : List (String × Bool) := [("NoneType", false), ("bool", false), ("int", false), ("str", false), ("tuple", false), ("list", false)]
abbrev cc_Value : List (Nat × Bool) := [(2, true), (3, false)]
abbrev tt_bool : List (String × Bool) := [("NoneType", false), ("bool", true), ("int", false), ("str", false), ("tuple", false), ("list", false)]
abbrev cc_bool : List (Nat × Bool) := [(2, false), (3, false)]
abbrev tt_int : List (String × Bool) := [("NoneType", false), ("bool", true), ("int", true), ("str", false), ("tuple", false), ("list", false)]
abbrev cc_int : List (Nat × Bool) := [(2, false), (3, false)]
abbrev tt_list_tuple : List (String × Bool) := [("NoneType", false), ("bool", false), ("int", false), ("str", false), ("tuple", true), ("list", true)]
abbrev cc_list_tuple : List (Nat × Bool) := [(2, false), (3, false)]
abbrev tt_str : List (String × Bool) := [("NoneType", false), ("bool", false), ("int", false), ("str", true), ("tuple", false), ("list", false)]
abbrev cc_str : List (Nat × Bool) := [(2, false), (3, false)]
def ad_PromiseError (G : Tx) : Addr := (G.ct 0).getD 0
def ad_BadCourse (G : Tx) : Addr := (G.ct 1).getD 0
def ad_Value (G : Tx) : Addr := (G.ct 2).getD 0
def ad_Course (G : Tx) : Addr := (G.ct 3).getD 0
structure TF (G : Tx) (mg : Str → Option Value) : Prop where
  n_bool : mg "bool" = none
  n_enumerate : mg "enumerate" = none
  n_int : mg "int" = none
  n_isinstance : mg "isinstance" = none
  n_len : mg "len" = none
  n_list : mg "list" = none
  n_range : mg "range" = none
  n_str : mg "str" = none
  n_tuple : mg "tuple" = none
  g_MOST_MOVES : ∃ t, mg "MOST_MOVES" = some (.int 402 t)
  a_calls : AOk G cs_calls "calls"
  a_giver : AOk G cs_giver "giver"
  a_held : AOk G cs_held "held"
  a_moves : AOk G cs_moves "moves"
  a_origin : AOk G cs_origin "origin"
  a_shape : AOk G cs_shape "shape"
  a_size : AOk G cs_size "size"
  xf_number : ∀ c ∈ cx_number, ∀ C1, G.ct c = some C1 → XfC G.K C1 ∧ PySem.W.findIn G.K (.ref C1) "number" = some none
  k_BadCourse : mg "BadCourse" = some (.ref (ad_BadCourse G))
  k_Value : mg "Value" = some (.ref (ad_Value G))
  i_Value : IsiOk G (fun t => PySem.W.kitOne G.K t (.ref (ad_Value G))) tt_Value cc_Value
  i_bool : IsiOk G (fun t => PySem.W.kitOne G.K t (.type "bool")) tt_bool cc_bool
  i_int : IsiOk G (fun t => PySem.W.kitOne G.K t (.type "int")) tt_int cc_int
  i_list_tuple : IsiOk G (fun t => PySem.W.kitAny G.K t [.type "list", .type "tuple"]) tt_list_tuple cc_list_tuple
  i_str : IsiOk G (fun t => PySem.W.kitOne G.K t (.type "str")) tt_str cc_str
  c_BadCourse : Catches G (.ref (ad_BadCourse G)) is_BadCourse
  eqc : ∀ c ∈ [2], ∀ C c2 C2, G.ct c = some C → G.ct c2 = some C2 → EqC G.K C C2
  l : ∀ n, G.lm n = lmT n
  d_BadCourse___init__ : ∃ C f fd, G.ct 1 = some C ∧ mg "BadCourse" = some (.ref C) ∧ OexC G.K C ∧ PySem.W.findIn G.K (.ref C) "__init__" = some (some (.ref f)) ∧ PySem.W.typeIn G.K (.ref f) = some (.type "function") ∧ FunD G.K "__init__" "BadCourse.__init__" (defArgs s_BadCourse___init__) (defBody s_BadCourse___init__) (defScope s_BadCourse___init__) [] [] f fd ∧ PySem.W.findIn G.K (.ref C) "number" = some none
  d_is_row : ∃ f fd, mg "is_row" = some (.ref f) ∧ FunD G.K "is_row" "is_row" (defArgs s_is_row) (defBody s_is_row) (defScope s_is_row) [] [] f fd
  d_is_number : ∃ f fd, mg "is_number" = some (.ref f) ∧ FunD G.K "is_number" "is_number" (defArgs s_is_number) (defBody s_is_number) (defScope s_is_number) [] [] f fd
  d_is_below : ∃ f fd, mg "is_below" = some (.ref f) ∧ FunD G.K "is_below" "is_below" (defArgs s_is_below) (defBody s_is_below) (defScope s_is_below) [] [] f fd
  d_Value___init__ : ∃ C f fd, G.ct 2 = some C ∧ mg "Value" = some (.ref C) ∧ Mk G.K C f ∧ FunD G.K "__init__" "Value.__init__" (defArgs s_Value___init__) (defBody s_Value___init__) (defScope s_Value___init__) [] [] f fd
  d_Value___eq__ : ∀ C, G.ct 2 = some C → ∃ f fd, Cls G.K C ∧ Meth G.K C "__eq__" f ∧ FunD G.K "__eq__" "Value.__eq__" (defArgs s_Value___eq__) (defBody s_Value___eq__) (defScope s_Value___eq__) [] [] f fd
  d_Course___init__ : ∃ C f fd, G.ct 3 = some C ∧ mg "Course" = some (.ref C) ∧ Mk G.K C f ∧ FunD G.K "__init__" "Course.__init__" (defArgs s_Course___init__) (defBody s_Course___init__) (defScope s_Course___init__) [] [] f fd
  d_Course_is_shape : ∀ C, G.ct 3 = some C → ∃ f fd, Cls G.K C ∧ Meth G.K C "is_shape" f ∧ FunD G.K "is_shape" "Course.is_shape" (defArgs s_Course_is_shape) (defBody s_Course_is_shape) (defScope s_Course_is_shape) [] [] f fd
  d_Course_can : ∀ C, G.ct 3 = some C → ∃ f fd, Cls G.K C ∧ Meth G.K C "can" f ∧ FunD G.K "can" "Course.can" (defArgs s_Course_can) (defBody s_Course_can) (defScope s_Course_can) [] [] f fd
  d_Course_make : ∀ C, G.ct 3 = some C → ∃ f fd, Cls G.K C ∧ Meth G.K C "make" f ∧ FunD G.K "make" "Course.make" (defArgs s_Course_make) (defBody s_Course_make) (defScope s_Course_make) [] [] f fd
  d_Course_could : ∀ C, G.ct 3 = some C → ∃ f fd, Cls G.K C ∧ Meth G.K C "could" f ∧ FunD G.K "could" "Course.could" (defArgs s_Course_could) (defBody s_Course_could) (defScope s_Course_could) [] [] f fd
  d_made : ∃ f fd, mg "made" = some (.ref f) ∧ FunD G.K "made" "made" (defArgs s_made) (defBody s_made) (defScope s_made) [] [] f fd
  d_is_course : ∃ f fd, mg "is_course" = some (.ref f) ∧ FunD G.K "is_course" "is_course" (defArgs s_is_course) (defBody s_is_course) (defScope s_is_course) [] [] f fd
  d_path_of : ∃ f fd, mg "path_of" = some (.ref f) ∧ FunD G.K "path_of" "path_of" (defArgs s_path_of) (defBody s_path_of) (defScope s_path_of) [] [] f fd
  d_law_number : ∃ f fd, mg "_law_number" = some (.ref f) ∧ FunD G.K "_law_number" "_law_number" (defArgs s_law_number) (defBody s_law_number) (defScope s_law_number) [] [] f fd
  d_law_take : ∃ f fd, mg "_law_take" = some (.ref f) ∧ FunD G.K "_law_take" "_law_take" (defArgs s_law_take) (defBody s_law_take) (defScope s_law_take) [] [] f fd
  d_law_pick : ∃ f fd, mg "_law_pick" = some (.ref f) ∧ FunD G.K "_law_pick" "_law_pick" (defArgs s_law_pick) (defBody s_law_pick) (defScope s_law_pick) [] [] f fd
  d_law_shapes : ∃ f fd, mg "_law_shapes" = some (.ref f) ∧ FunD G.K "_law_shapes" "_law_shapes" (defArgs s_law_shapes) (defBody s_law_shapes) (defScope s_law_shapes) [] [] f fd
  d_law_things : ∃ f fd, mg "_law_things" = some (.ref f) ∧ FunD G.K "_law_things" "_law_things" (defArgs s_law_things) (defBody s_law_things) (defScope s_law_things) [] [] f fd
  d_law_could : ∃ f fd, mg "_law_could" = some (.ref f) ∧ FunD G.K "_law_could" "_law_could" (defArgs s_law_could) (defBody s_law_could) (defScope s_law_could) [] [] f fd
  d_law_course : ∃ f fd, mg "_law_course" = some (.ref f) ∧ FunD G.K "_law_course" "_law_course" (defArgs s_law_course) (defBody s_law_course) (defScope s_law_course) [] [] f fd
  d_law_path : ∃ f fd, mg "_law_path" = some (.ref f) ∧ FunD G.K "_law_path" "_law_path" (defArgs s_law_path) (defBody s_law_path) (defScope s_law_path) [] [] f fd
  d_law_first_bad : ∃ f fd, mg "_law_first_bad" = some (.ref f) ∧ FunD G.K "_law_first_bad" "_law_first_bad" (defArgs s_law_first_bad) (defBody s_law_first_bad) (defScope s_law_first_bad) [] [] f fd
  d_law : ∃ f fd, mg "law" = some (.ref f) ∧ FunD G.K "law" "law" (defArgs s_law) (defBody s_law) (defScope s_law) [] [] f fd
section
variable [TB] {P : Program} {w : World} {G : Tx} {mg : Str → Option Value} {base : Heap}
theorem hx_BadCourse (T : TF G mg) : HasX P w G mg base "BadCourse" 1 1 ["number"] := by
  obtain ⟨C, f, fd, e1, e2, e3, e4, e5, e6, h0⟩ := T.d_BadCourse___init__
  exact ⟨C, f, fd, ["self", "number"], e1, e2, e3, e4, e5, initD1 e6 sc_BadCourse___init__ e3 h0 (fun cdv A outer s H E => pss_one (ps_ost (pv 0) (pv 1))), e6.bindsN fun _ _ _ _ _ _ us hl => match us, hl with | [_, _], _ => rfl⟩
set_option maxHeartbeats 4000000 in
def D_is_row : {g : DL.Env → Out Fl // ∀ [TB] {P : Program} {w : World} {G : Tx} {mg : Str → Option Value} {base : Heap} (T : TF G mg) (f : Addr) (cdv : Value) (A : Around) (outer : List PySem.Env) (s : Shared) (H : Hp) (E : XK) (C : DCtx), Room 0 (A.deeper (envOfC "is_row" (defScope s_is_row) s.heap.objs.size f cdv)) → (∀ q ∈ C.pv, q.1 ∈ ([] : List Nat)) →
  DSs (cxOf (L2.CX P w) P w G.K mg base ["thing"] "is_row" (defScope s_is_row) f cdv A outer s H E) G (fun cls d _ H' => E cls d H') C (defBody s_is_row) g} := ⟨_, @fun _ P w G mg base T f cdv A outer s H E C hr hC =>
  have tk : Takes (cxOf (L2.CX P w) P w G.K mg base ["thing"] "is_row" (defScope s_is_row) f cdv A outer s H E) (fun cls d _ H' => E cls d H') := takes_of rfl rfl rfl rfl
  have po : PassesOwn (model P w) (cxOf (L2.CX P w) P w G.K mg base ["thing"] "is_row" (defScope s_is_row) f cdv A outer s H E).A (cxOf (L2.CX P w) P w G.K mg base ["thing"] "is_row" (defScope s_is_row) f cdv A outer s H E).env (cxOf (L2.CX P w) P w G.K mg base ["thing"] "is_row" (defScope s_is_row) f cdv A outer s H E).xe := passes_of rfl
  (dss_one (ds_ret (do_of (de_isi2 rfl T.i_list_tuple rfl T.n_isinstance rfl T.n_list (by decide +kernel) rfl T.n_tuple (by decide +kernel) (de_vz 0)))))⟩
theorem h_is_row (T : TF G mg) : Has P w G mg base "is_row" 1 1 (semOf 1 0 [] D_is_row.1) := by
  obtain ⟨f, fd, e1, e9⟩ := T.d_is_row
  exact ⟨f, fd, ["thing"], e1, e9.kp, fnD e9 sc_is_row rfl rfl (fun cdv A outer s H E C hr hC => D_is_row.2 T f cdv A outer s H E C hr hC), e9.bindsN fun _ _ _ _ _ _ us hl => match us, hl with | [_], _ => rfl⟩
set_option maxHeartbeats 4000000 in
def D_is_number : {g : DL.Env → Out Fl // ∀ [TB] {P : Program} {w : World} {G : Tx} {mg : Str → Option Value} {base : Heap} (T : TF G mg) (f : Addr) (cdv : Value) (A : Around) (outer : List PySem.Env) (s : Shared) (H : Hp) (E : XK) (C : DCtx), Room 0 (A.deeper (envOfC "is_number" (defScope s_is_number) s.heap.objs.size f cdv)) → (∀ q ∈ C.pv, q.1 ∈ ([] : List Nat)) →
  DSs (cxOf (L2.CX P w) P w G.K mg base ["thing"] "is_number" (defScope s_is_number) f cdv A outer s H E) G (fun cls d _ H' => E cls d H') C (defBody s_is_number) g} := ⟨_, @fun _ P w G mg base T f cdv A outer s H E C hr hC =>
  have tk : Takes (cxOf (L2.CX P w) P w G.K mg base ["thing"] "is_number" (defScope s_is_number) f cdv A outer s H E) (fun cls d _ H' => E cls d H') := takes_of rfl rfl rfl rfl
  have po : PassesOwn (model P w) (cxOf (L2.CX P w) P w G.K mg base ["thing"] "is_number" (defScope s_is_number) f cdv A outer s H E).A (cxOf (L2.CX P w) P w G.K mg base ["thing"] "is_number" (defScope s_is_number) f cdv A outer s H E).env (cxOf (L2.CX P w) P w G.K mg base ["thing"] "is_number" (defScope s_is_number) f cdv A outer s H E).xe := passes_of rfl
  (dss_one (ds_ret (do_of (de_and (de_isi rfl T.i_int rfl T.n_isinstance rfl T.n_int (by decide +kernel) (de_vz 0)) (de_and (de_not (de_isi rfl T.i_bool rfl T.n_isinstance rfl T.n_bool (by decide +kernel) (de_vz 0))) (de_one (de_cmpS cs_ge (de_vz 0) de_int)))))))⟩
theorem h_is_number (T : TF G mg) : Has P w G mg base "is_number" 1 1 (semOf 1 0 [] D_is_number.1) := by
  obtain ⟨f, fd, e1, e9⟩ := T.d_is_number
  exact ⟨f, fd, ["thing"], e1, e9.kp, fnD e9 sc_is_number rfl rfl (fun cdv A outer s H E C hr hC => D_is_number.2 T f cdv A outer s H E C hr hC), e9.bindsN fun _ _ _ _ _ _ us hl => match us, hl with | [_], _ => rfl⟩
set_option maxHeartbeats 4000000 in
def D_is_below : {g : DL.Env → Out Fl // ∀ [TB] {P : Program} {w : World} {G : Tx} {mg : Str → Option Value} {base : Heap} (T : TF G mg) (f : Addr) (cdv : Value) (A : Around) (outer : List PySem.Env) (s : Shared) (H : Hp) (E : XK) (C : DCtx), Room 1 (A.deeper (envOfC "is_below" (defScope s_is_below) s.heap.objs.size f cdv)) → (∀ q ∈ C.pv, q.1 ∈ ([] : List Nat)) →
  DSs (cxOf (L2.CX P w) P w G.K mg base ["thing", "bound"] "is_below" (defScope s_is_below) f cdv A outer s H E) G (fun cls d _ H' => E cls d H') C (defBody s_is_below) g} := ⟨_, @fun _ P w G mg base T f cdv A outer s H E C hr hC =>
  have tk : Takes (cxOf (L2.CX P w) P w G.K mg base ["thing", "bound"] "is_below" (defScope s_is_below) f cdv A outer s H E) (fun cls d _ H' => E cls d H') := takes_of rfl rfl rfl rfl
  have po : PassesOwn (model P w) (cxOf (L2.CX P w) P w G.K mg base ["thing", "bound"] "is_below" (defScope s_is_below) f cdv A outer s H E).A (cxOf (L2.CX P w) P w G.K mg base ["thing", "bound"] "is_below" (defScope s_is_below) f cdv A outer s H E).env (cxOf (L2.CX P w) P w G.K mg base ["thing", "bound"] "is_below" (defScope s_is_below) f cdv A outer s H E).xe := passes_of rfl
  (dss_one (ds_ret (do_of (de_and (de_of (do_call tk rfl (h_is_number T) (hr.mono (by decide)) rfl (da_cons (de_vz 0) da_nil))) (de_one (de_cmpS cs_lt (de_vz 0) (de_vz 1)))))))⟩
theorem h_is_below (T : TF G mg) : Has P w G mg base "is_below" 2 2 (semOf 2 0 [] D_is_below.1) := by
  obtain ⟨f, fd, e1, e9⟩ := T.d_is_below
  exact ⟨f, fd, ["thing", "bound"], e1, e9.kp, fnD e9 sc_is_below rfl rfl (fun cdv A outer s H E C hr hC => D_is_below.2 T f cdv A outer s H E C hr hC), e9.bindsN fun _ _ _ _ _ _ us hl => match us, hl with | [_, _], _ => rfl⟩
set_option maxHeartbeats 4000000 in
def D_Value___init__ : {g : DL.Env → Out Fl // ∀ [TB] {P : Program} {w : World} {G : Tx} {mg : Str → Option Value} {base : Heap} (T : TF G mg) (f : Addr) (cdv : Value) (A : Around) (outer : List PySem.Env) (s : Shared) (H : Hp) (E : XK) (C : DCtx), Room 0 (A.deeper (envOfC "Value.__init__" (defScope s_Value___init__) s.heap.objs.size f cdv)) → (∀ q ∈ C.pv, q.1 ∈ ([0] : List Nat)) →
  DSs (cxOf (L2.CX P w) P w G.K mg base ["self", "shape", "giver", "origin"] "Value.__init__" (defScope s_Value___init__) f cdv A outer s H E) G (fun cls d _ H' => E cls d H') C (defBody s_Value___init__) g} := ⟨_, @fun _ P w G mg base T f cdv A outer s H E C hr hC =>
  have tk : Takes (cxOf (L2.CX P w) P w G.K mg base ["self", "shape", "giver", "origin"] "Value.__init__" (defScope s_Value___init__) f cdv A outer s H E) (fun cls d _ H' => E cls d H') := takes_of rfl rfl rfl rfl
  have po : PassesOwn (model P w) (cxOf (L2.CX P w) P w G.K mg base ["self", "shape", "giver", "origin"] "Value.__init__" (defScope s_Value___init__) f cdv A outer s H E).A (cxOf (L2.CX P w) P w G.K mg base ["self", "shape", "giver", "origin"] "Value.__init__" (defScope s_Value___init__) f cdv A outer s H E).env (cxOf (L2.CX P w) P w G.K mg base ["self", "shape", "giver", "origin"] "Value.__init__" (defScope s_Value___init__) f cdv A outer s H E).xe := passes_of rfl
  (dss_cons (ds_fld cs_shape rfl pok_nil T.a_shape (dp_v 0) (do_of (de_vz 1)))
  (dss_cons (ds_fld cs_giver rfl pok_nil T.a_giver (dp_v 0) (do_of (de_vz 2)))
  (dss_one (ds_fld cs_origin rfl pok_nil T.a_origin (dp_v 0) (do_of (de_vz 3))))))⟩
theorem hc_Value (T : TF G mg) : HasC P w G mg base "Value" 2 1 4 (semOf 4 0 [0] D_Value___init__.1) := by
  obtain ⟨C, f, fd, e1, e2, e3, e9⟩ := T.d_Value___init__
  exact ⟨C, f, fd, ["self", "shape", "giver", "origin"], e1, e2, e3, fnD e9 sc_Value___init__ rfl rfl (fun cdv A outer s H E C hr hC => D_Value___init__.2 T f cdv A outer s H E C hr hC), e9.bindsN fun _ _ _ _ _ _ us hl => match us, hl with | [_, _, _, _], _ => rfl⟩
set_option maxHeartbeats 4000000 in
def D_Value___eq__ : {g : DL.Env → Out Fl // ∀ [TB] {P : Program} {w : World} {G : Tx} {mg : Str → Option Value} {base : Heap} (T : TF G mg) (f : Addr) (cdv : Value) (A : Around) (outer : List PySem.Env) (s : Shared) (H : Hp) (E : XK) (C : DCtx), Room 0 (A.deeper (envOfC "Value.__eq__" (defScope s_Value___eq__) s.heap.objs.size f cdv)) → (∀ q ∈ C.pv, q.1 ∈ ([] : List Nat)) →
  DSs (cxOf (L2.CX P w) P w G.K mg base ["self", "other"] "Value.__eq__" (defScope s_Value___eq__) f cdv A outer s H E) G (fun cls d _ H' => E cls d H') C (defBody s_Value___eq__) g} := ⟨_, @fun _ P w G mg base T f cdv A outer s H E C hr hC =>
  have tk : Takes (cxOf (L2.CX P w) P w G.K mg base ["self", "other"] "Value.__eq__" (defScope s_Value___eq__) f cdv A outer s H E) (fun cls d _ H' => E cls d H') := takes_of rfl rfl rfl rfl
  have po : PassesOwn (model P w) (cxOf (L2.CX P w) P w G.K mg base ["self", "other"] "Value.__eq__" (defScope s_Value___eq__) f cdv A outer s H E).A (cxOf (L2.CX P w) P w G.K mg base ["self", "other"] "Value.__eq__" (defScope s_Value___eq__) f cdv A outer s H E).env (cxOf (L2.CX P w) P w G.K mg base ["self", "other"] "Value.__eq__" (defScope s_Value___eq__) f cdv A outer s H E).xe := passes_of rfl
  (dss_cons (ds_if (dt_w (dw_or (dt_not (dt_val (de_isiC rfl T.i_Value rfl T.n_isinstance rfl T.k_Value (de_vz 1)))) (dw_or1 (dt_cmpS (cs_ne rfl hr.units) (de_tup (da_cons (de_a cs_shape rfl T.a_shape (de_vz 0)) (da_cons (de_a cs_giver rfl T.a_giver (de_vz 0)) da_nil))) (de_tup (da_cons (de_a cs_shape rfl T.a_shape (de_vz 1)) (da_cons (de_a cs_giver rfl T.a_giver (de_vz 1)) da_nil)))))))
  (dss_one (ds_ret (do_of de_bl)))
  dss_nil)
  (dss_one (ds_ret (do_of (de_cmpS ((cs_eq rfl hr.units).or (cs_eqL rfl (Nat.lt_of_le_of_lt (Nat.le_add_right _ 64) hr.units))) (de_a cs_origin rfl T.a_origin (de_vz 0)) (de_a cs_origin rfl T.a_origin (de_vz 1)))))))⟩
theorem hm_Value___eq__ (T : TF G mg) : HasM P w G mg base 2 "__eq__" 1 2 (semOf 2 0 [] D_Value___eq__.1) := ⟨fun C e0 => by
  obtain ⟨f, fd, e1, e2, e9⟩ := T.d_Value___eq__ C e0
  exact ⟨f, fd, ["self", "other"], e1, e2, fnD e9 sc_Value___eq__ rfl rfl (fun cdv A outer s H E C hr hC => D_Value___eq__.2 T f cdv A outer s H E C hr hC), e9.bindsN fun _ _ _ _ _ _ us hl => match us, hl with | [_, _], _ => rfl⟩⟩
def ms_eq : MS := fun c => if c = 2 then some (semOf 2 0 [] D_Value___eq__.1) else none
theorem hm_eq (T : TF G mg) : ∀ c sem, ms_eq c = some sem → HasM P w G mg base c "__eq__" 1 2 sem := fun c sem e => by
  unfold ms_eq at e
  split at e
  · rename_i ec; subst ec; cases e
    exact ⟨fun C e0 => by
      obtain ⟨f, fd, ps, e1, e2, e3, e4⟩ := (hm_Value___eq__ T).ex C e0
      exact ⟨f, fd, ps, e1, e2, e3.mono (by decide), e4⟩⟩
  cases e
theorem eqc_all (T : TF G mg) : ∀ c sem, ms_eq c = some sem → ∀ C c2 C2, G.ct c = some C → G.ct c2 = some C2 → EqC G.K C C2 := fun c sem e => by
  refine T.eqc c ?_
  unfold ms_eq at e
  split at e
  · rename_i ec; subst ec; decide
  cases e
set_option maxHeartbeats 4000000 in
def D_Course___init__ : {g : DL.Env → Out Fl // ∀ [TB] {P : Program} {w : World} {G : Tx} {mg : Str → Option Value} {base : Heap} (T : TF G mg) (f : Addr) (cdv : Value) (A : Around) (outer : List PySem.Env) (s : Shared) (H : Hp) (E : XK) (C : DCtx), Room 0 (A.deeper (envOfC "Course.__init__" (defScope s_Course___init__) s.heap.objs.size f cdv)) → (∀ q ∈ C.pv, q.1 ∈ ([0] : List Nat)) →
  DSs (cxOf (L2.CX P w) P w G.K mg base ["self", "size"] "Course.__init__" (defScope s_Course___init__) f cdv A outer s H E) G (fun cls d _ H' => E cls d H') C (defBody s_Course___init__) g} := ⟨_, @fun _ P w G mg base T f cdv A outer s H E C hr hC =>
  have tk : Takes (cxOf (L2.CX P w) P w G.K mg base ["self", "size"] "Course.__init__" (defScope s_Course___init__) f cdv A outer s H E) (fun cls d _ H' => E cls d H') := takes_of rfl rfl rfl rfl
  have po : PassesOwn (model P w) (cxOf (L2.CX P w) P w G.K mg base ["self", "size"] "Course.__init__" (defScope s_Course___init__) f cdv A outer s H E).A (cxOf (L2.CX P w) P w G.K mg base ["self", "size"] "Course.__init__" (defScope s_Course___init__) f cdv A outer s H E).env (cxOf (L2.CX P w) P w G.K mg base ["self", "size"] "Course.__init__" (defScope s_Course___init__) f cdv A outer s H E).xe := passes_of rfl
  (dss_cons (ds_fld cs_size rfl pok_nil T.a_size (dp_v 0) (do_of (de_vz 1)))
  (dss_cons (ds_fld cs_moves rfl pok_nil T.a_moves (dp_v 0) (do_of (de_tup da_nil)))
  (dss_cons (ds_fld cs_held rfl pok_nil T.a_held (dp_v 0) (do_lst da_nil))
  (dss_one (ds_fld cs_calls rfl pok_nil T.a_calls (dp_v 0) (do_lst da_nil))))))⟩
theorem hc_Course (T : TF G mg) : HasC P w G mg base "Course" 3 1 2 (semOf 2 0 [0] D_Course___init__.1) := by
  obtain ⟨C, f, fd, e1, e2, e3, e9⟩ := T.d_Course___init__
  exact ⟨C, f, fd, ["self", "size"], e1, e2, e3, fnD e9 sc_Course___init__ rfl rfl (fun cdv A outer s H E C hr hC => D_Course___init__.2 T f cdv A outer s H E C hr hC), e9.bindsN fun _ _ _ _ _ _ us hl => match us, hl with | [_, _], _ => rfl⟩
set_option maxHeartbeats 4000000 in
def D_Course_is_shape : {g : DL.Env → Out Fl // ∀ [TB] {P : Program} {w : World} {G : Tx} {mg : Str → Option Value} {base : Heap} (T : TF G mg) (f : Addr) (cdv : Value) (A : Around) (outer : List PySem.Env) (s : Shared) (H : Hp) (E : XK) (C : DCtx), Room 2 (A.deeper (envOfC "Course.is_shape" (defScope s_Course_is_shape) s.heap.objs.size f cdv)) → (∀ q ∈ C.pv, q.1 ∈ ([] : List Nat)) →
  DSs (cxOf (L2.CX P w) P w G.K mg base ["self", "shape"] "Course.is_shape" (defScope s_Course_is_shape) f cdv A outer s H E) G (fun cls d _ H' => E cls d H') C (defBody s_Course_is_shape) g} := ⟨_, @fun _ P w G mg base T f cdv A outer s H E C hr hC =>
  have tk : Takes (cxOf (L2.CX P w) P w G.K mg base ["self", "shape"] "Course.is_shape" (defScope s_Course_is_shape) f cdv A outer s H E) (fun cls d _ H' => E cls d H') := takes_of rfl rfl rfl rfl
  have po : PassesOwn (model P w) (cxOf (L2.CX P w) P w G.K mg base ["self", "shape"] "Course.is_shape" (defScope s_Course_is_shape) f cdv A outer s H E).A (cxOf (L2.CX P w) P w G.K mg base ["self", "shape"] "Course.is_shape" (defScope s_Course_is_shape) f cdv A outer s H E).env (cxOf (L2.CX P w) P w G.K mg base ["self", "shape"] "Course.is_shape" (defScope s_Course_is_shape) f cdv A outer s H E).xe := passes_of rfl
  (dss_one (ds_ret (do_if (dt_val (de_isi rfl T.i_str rfl T.n_isinstance rfl T.n_str (by decide +kernel) (de_vz 1))) (do_of (de_cmpS (cs_in rfl (hu65 hr)) (de_vz 1) (de_tup (da_cons de_str (da_cons de_str da_nil))))) (do_call tk rfl (h_is_below T) (hr.mono (by decide)) rfl (da_cons (de_vz 1) (da_cons (de_a cs_size rfl T.a_size (de_vz 0)) da_nil))))))⟩
theorem hm_Course_is_shape (T : TF G mg) : HasM P w G mg base 3 "is_shape" 3 2 (semOf 2 0 [] D_Course_is_shape.1) := ⟨fun C e0 => by
  obtain ⟨f, fd, e1, e2, e9⟩ := T.d_Course_is_shape C e0
  exact ⟨f, fd, ["self", "shape"], e1, e2, fnD e9 sc_Course_is_shape rfl rfl (fun cdv A outer s H E C hr hC => D_Course_is_shape.2 T f cdv A outer s H E C hr hC), e9.bindsN fun _ _ _ _ _ _ us hl => match us, hl with | [_, _], _ => rfl⟩⟩
def ms_is_shape : MS := fun c => if c = 3 then some (semOf 2 0 [] D_Course_is_shape.1) else none
theorem hm_is_shape (T : TF G mg) : ∀ c sem, ms_is_shape c = some sem → HasM P w G mg base c "is_shape" 3 2 sem := fun c sem e => by
  unfold ms_is_shape at e
  split at e
  · rename_i ec; subst ec; cases e
    exact ⟨fun C e0 => by
      obtain ⟨f, fd, ps, e1, e2, e3, e4⟩ := (hm_Course_is_shape T).ex C e0
      exact ⟨f, fd, ps, e1, e2, e3.mono (by decide), e4⟩⟩
  cases e
set_option maxHeartbeats 4000000 in
def D_Course_can : {g : DL.Env → Out Fl // ∀ [TB] {P : Program} {w : World} {G : Tx} {mg : Str → Option Value} {base : Heap} (T : TF G mg) (f : Addr) (cdv : Value) (A : Around) (outer : List PySem.Env) (s : Shared) (H : Hp) (E : XK) (C : DCtx), Room 3 (A.deeper (envOfC "Course.can" (defScope s_Course_can) s.heap.objs.size f cdv)) → (∀ q ∈ C.pv, q.1 ∈ ([] : List Nat)) →
  DSs (cxOf (L2.CX P w) P w G.K mg base ["self", "move", "word"] "Course.can" (defScope s_Course_can) f cdv A outer s H E) G (fun cls d _ H' => E cls d H') C (defBody s_Course_can) g} := ⟨_, @fun _ P w G mg base T f cdv A outer s H E C hr hC =>
  have tk : Takes (cxOf (L2.CX P w) P w G.K mg base ["self", "move", "word"] "Course.can" (defScope s_Course_can) f cdv A outer s H E) (fun cls d _ H' => E cls d H') := takes_of rfl rfl rfl rfl
  have po : PassesOwn (model P w) (cxOf (L2.CX P w) P w G.K mg base ["self", "move", "word"] "Course.can" (defScope s_Course_can) f cdv A outer s H E).A (cxOf (L2.CX P w) P w G.K mg base ["self", "move", "word"] "Course.can" (defScope s_Course_can) f cdv A outer s H E).env (cxOf (L2.CX P w) P w G.K mg base ["self", "move", "word"] "Course.can" (defScope s_Course_can) f cdv A outer s H E).xe := passes_of rfl
  (dss_cons (ds_if (dt_w (dw_or (dt_not (dt_val (de_of (do_call tk rfl (h_is_row T) (hr.mono (by decide)) rfl (da_cons (de_vz 1) da_nil))))) (dw_or (dt_cmpS ((cs_eq rfl hr.units).or (cs_eqL rfl (Nat.lt_of_le_of_lt (Nat.le_add_right _ 64) hr.units))) (de_of (do_callS (cl_len rfl) rfl T.n_len (by decide +kernel) (.inl ⟨_, rfl⟩) (da_cons (de_vz 1) da_nil))) de_int) (dw_or1 (dt_not (dt_val (de_isi rfl T.i_str rfl T.n_isinstance rfl T.n_str (by decide +kernel) (de_ixS (ix_s rfl) (de_vz 1) de_int))))))))
  (dss_one (ds_ret (do_of de_bl)))
  dss_nil)
  (dss_cons (ds_set (i := 2) (np hC (by decide)) sc_Course_can.nd rfl (by first | exact Or.inl rfl | exact Or.inr rfl) (do_of (de_ixS (ix_s rfl) (de_vz 1) de_int)))
  (dss_cons (ds_if (dt_cmpS ((cs_eq rfl hr.units).or (cs_eqL rfl (Nat.lt_of_le_of_lt (Nat.le_add_right _ 64) hr.units))) (de_a cs_held rfl T.a_held (de_vz 0)) (de_of (do_lst da_nil)))
  (dss_one (ds_ret (do_of (de_and (de_cmpS ((cs_eq rfl hr.units).or (cs_eqL rfl (Nat.lt_of_le_of_lt (Nat.le_add_right _ 64) hr.units))) (de_vz 2) de_str) (de_and (de_cmpS ((cs_eq rfl hr.units).or (cs_eqL rfl (Nat.lt_of_le_of_lt (Nat.le_add_right _ 64) hr.units))) (de_of (do_callS (cl_len rfl) rfl T.n_len (by decide +kernel) (.inl ⟨_, rfl⟩) (da_cons (de_vz 1) da_nil))) de_int) (de_one (de_of (do_meth tk rfl (hr.mono (by decide)) (hm_is_shape T) (de_vz 0) (da_cons (de_ixS (ix_s rfl) (de_vz 1) de_int) da_nil)))))))))
  dss_nil)
  (dss_cons (ds_if (dt_cmpS (cs_in rfl (hu65 hr)) (de_vz 2) (de_tup (da_cons de_str (da_cons de_str (da_cons de_str da_nil)))))
  (dss_cons (ds_if (dt_w (dw_or (dt_cmpS (cs_ne rfl hr.units) (de_of (do_callS (cl_len rfl) rfl T.n_len (by decide +kernel) (.inl ⟨_, rfl⟩) (da_cons (de_vz 1) da_nil))) de_int) (dw_or (dt_not (dt_val (de_of (do_call tk rfl (h_is_below T) (hr.mono (by decide)) rfl (da_cons (de_ixS (ix_s rfl) (de_vz 1) de_int) (da_cons (de_of (do_callS (cl_len rfl) rfl T.n_len (by decide +kernel) (.inl ⟨_, rfl⟩) (da_cons (de_a cs_held rfl T.a_held (de_vz 0)) da_nil))) da_nil)))))) (dw_or1 (dt_not (dt_val (de_of (do_meth tk rfl (hr.mono (by decide)) (hm_is_shape T) (de_vz 0) (da_cons (de_ixS (ix_s rfl) (de_vz 1) de_int) da_nil)))))))))
  (dss_one (ds_ret (do_of de_bl)))
  dss_nil)
  (dss_one (ds_ret (do_of (de_cmpS ((cs_eq rfl hr.units).or (cs_eqL rfl (Nat.lt_of_le_of_lt (Nat.le_add_right _ 64) hr.units))) (de_a cs_shape rfl T.a_shape (de_ixS (ix_s rfl) (de_a cs_held rfl T.a_held (de_vz 0)) (de_ixS (ix_s rfl) (de_vz 1) de_int))) (de_if (dt_cmpS ((cs_eq rfl hr.units).or (cs_eqL rfl (Nat.lt_of_le_of_lt (Nat.le_add_right _ 64) hr.units))) (de_vz 2) de_str) de_str de_str))))))
  dss_nil)
  (dss_cons (ds_if (dt_cmpS ((cs_eq rfl hr.units).or (cs_eqL rfl (Nat.lt_of_le_of_lt (Nat.le_add_right _ 64) hr.units))) (de_vz 2) de_str)
  (dss_cons (ds_if (dt_w (dw_or (dt_cmpS (cs_ne rfl hr.units) (de_of (do_callS (cl_len rfl) rfl T.n_len (by decide +kernel) (.inl ⟨_, rfl⟩) (da_cons (de_vz 1) da_nil))) de_int) (dw_or (dt_not (dt_val (de_of (do_call tk rfl (h_is_below T) (hr.mono (by decide)) rfl (da_cons (de_ixS (ix_s rfl) (de_vz 1) de_int) (da_cons (de_of (do_callS (cl_len rfl) rfl T.n_len (by decide +kernel) (.inl ⟨_, rfl⟩) (da_cons (de_a cs_calls rfl T.a_calls (de_vz 0)) da_nil))) da_nil)))))) (dw_or1 (dt_not (dt_val (de_of (do_meth tk rfl (hr.mono (by decide)) (hm_is_shape T) (de_vz 0) (da_cons (de_ixS (ix_s rfl) (de_vz 1) de_int) da_nil)))))))))
  (dss_one (ds_ret (do_of de_bl)))
  dss_nil)
  (dss_one (ds_ret (do_of (de_not (de_ixS (ix_s rfl) (de_ixS (ix_s rfl) (de_a cs_calls rfl T.a_calls (de_vz 0)) (de_ixS (ix_s rfl) (de_vz 1) de_int)) de_int))))))
  dss_nil)
  (dss_one (ds_ret (do_of (de_and (de_cmpS ((cs_eq rfl hr.units).or (cs_eqL rfl (Nat.lt_of_le_of_lt (Nat.le_add_right _ 64) hr.units))) (de_vz 2) de_str) (de_and (de_cmpS ((cs_eq rfl hr.units).or (cs_eqL rfl (Nat.lt_of_le_of_lt (Nat.le_add_right _ 64) hr.units))) (de_of (do_callS (cl_len rfl) rfl T.n_len (by decide +kernel) (.inl ⟨_, rfl⟩) (da_cons (de_vz 1) da_nil))) de_int) (de_one (de_of (do_call tk rfl (h_is_below T) (hr.mono (by decide)) rfl (da_cons (de_ixS (ix_s rfl) (de_vz 1) de_int) (da_cons (de_of (do_callS (cl_len rfl) rfl T.n_len (by decide +kernel) (.inl ⟨_, rfl⟩) (da_cons (de_a cs_held rfl T.a_held (de_vz 0)) da_nil))) da_nil)))))))))))))))⟩
theorem hm_Course_can (T : TF G mg) : HasM P w G mg base 3 "can" 4 2 (semOf 2 1 [] D_Course_can.1) := ⟨fun C e0 => by
  obtain ⟨f, fd, e1, e2, e9⟩ := T.d_Course_can C e0
  exact ⟨f, fd, ["self", "move"], e1, e2, fnD e9 sc_Course_can rfl rfl (fun cdv A outer s H E C hr hC => D_Course_can.2 T f cdv A outer s H E C hr hC), e9.bindsN fun _ _ _ _ _ _ us hl => match us, hl with | [_, _], _ => rfl⟩⟩
def ms_can : MS := fun c => if c = 3 then some (semOf 2 1 [] D_Course_can.1) else none
theorem hm_can (T : TF G mg) : ∀ c sem, ms_can c = some sem → HasM P w G mg base c "can" 4 2 sem := fun c sem e => by
  unfold ms_can at e
  split at e
  · rename_i ec; subst ec; cases e
    exact ⟨fun C e0 => by
      obtain ⟨f, fd, ps, e1, e2, e3, e4⟩ := (hm_Course_can T).ex C e0
      exact ⟨f, fd, ps, e1, e2, e3.mono (by decide), e4⟩⟩
  cases e
set_option maxHeartbeats 4000000 in
def D_Course_make : {g : DL.Env → Out Fl // ∀ [TB] {P : Program} {w : World} {G : Tx} {mg : Str → Option Value} {base : Heap} (T : TF G mg) (f : Addr) (cdv : Value) (A : Around) (outer : List PySem.Env) (s : Shared) (H : Hp) (E : XK) (C : DCtx), Room 4 (A.deeper (envOfC "Course.make" (defScope s_Course_make) s.heap.objs.size f cdv)) → (∀ q ∈ C.pv, q.1 ∈ ([0] : List Nat)) →
  DSs (cxOf (L2.CX P w) P w G.K mg base ["self", "move", "word", "number", "giver", "place"] "Course.make" (defScope s_Course_make) f cdv A outer s H E) G (fun cls d _ H' => E cls d H') C (defBody s_Course_make) g} := ⟨_, @fun _ P w G mg base T f cdv A outer s H E C hr hC =>
  have tk : Takes (cxOf (L2.CX P w) P w G.K mg base ["self", "move", "word", "number", "giver", "place"] "Course.make" (defScope s_Course_make) f cdv A outer s H E) (fun cls d _ H' => E cls d H') := takes_of rfl rfl rfl rfl
  have po : PassesOwn (model P w) (cxOf (L2.CX P w) P w G.K mg base ["self", "move", "word", "number", "giver", "place"] "Course.make" (defScope s_Course_make) f cdv A outer s H E).A (cxOf (L2.CX P w) P w G.K mg base ["self", "move", "word", "number", "giver", "place"] "Course.make" (defScope s_Course_make) f cdv A outer s H E).env (cxOf (L2.CX P w) P w G.K mg base ["self", "move", "word", "number", "giver", "place"] "Course.make" (defScope s_Course_make) f cdv A outer s H E).xe := passes_of rfl
  (dss_cons (ds_if (dt_peek fun C2 h1 => (dt_w (dw_or (dt_not (dt_val (de_of (do_meth tk rfl (hr.mono (by decide)) (hm_can T) (de_vz 0) (da_cons (de_vz 1) da_nil))))) (dw_or1 (dt_cmpS ((cs_eq rfl hr.units).or (cs_eqL rfl (Nat.lt_of_le_of_lt (Nat.le_add_right _ 64) hr.units))) (de_of (do_callS (cl_len rfl) rfl T.n_len (by decide +kernel) (.inl ⟨_, rfl⟩) (da_cons (de_a cs_moves rfl T.a_moves (de_vz 0)) da_nil))) (de_gInt rfl T.g_MOST_MOVES))))))
  (dss_one (ds_raise rfl tk rfl (hx_BadCourse T) (hr.mono (by decide)) rfl (da_cons (de_peek fun C4 h3 => (de_of (do_callS (cl_len rfl) rfl T.n_len (by decide +kernel) (.inl ⟨_, rfl⟩) (da_cons (de_a cs_moves rfl T.a_moves (de_vz 0)) da_nil)))) da_nil)))
  dss_nil)
  (dss_cons (ds_set (i := 2) (np hC (by decide)) sc_Course_make.nd rfl (by first | exact Or.inl rfl | exact Or.inr rfl) (do_of (de_ixS (ix_s rfl) (de_vz 1) de_int)))
  (dss_cons (ds_fld cs_moves rfl pok_nil T.a_moves (dp_v 0) (do_of (de_tup (da_star rfl (de_p (pok_cons T.a_moves pok_nil) (dp_a cs_moves rfl (dp_v 0))) (da_cons (de_of (do_callS (cl_tuple rfl) rfl T.n_tuple (by decide +kernel) (.inr ⟨_, rfl⟩) (da_cons (de_vz 1) da_nil))) da_nil)))))
  (dss_cons (ds_if (dt_cmpS ((cs_eq rfl hr.units).or (cs_eqL rfl (Nat.lt_of_le_of_lt (Nat.le_add_right _ 64) hr.units))) (de_vz 2) de_str)
  (dss_one (ds_ret (do_of (de_ixS (ix_s rfl) (de_vz 1) de_int))))
  dss_nil)
  (dss_cons (ds_if (dt_cmpS ((cs_eq rfl hr.units).or (cs_eqL rfl (Nat.lt_of_le_of_lt (Nat.le_add_right _ 64) hr.units))) (de_vz 2) de_str)
  (dss_one (ds_append (pok_cons T.a_held pok_nil) (dp_a cs_held rfl (dp_v 0)) (fun C6 h5 => (de_of (do_make tk rfl (hc_Value T) (hr.mono (by decide)) rfl (da_cons (de_ixS (ix_s rfl) (de_vz 1) de_int) (da_cons de_int (da_cons (de_tup da_nil) da_nil))))))))
  (dss_one (ds_if (dt_cmpS ((cs_eq rfl hr.units).or (cs_eqL rfl (Nat.lt_of_le_of_lt (Nat.le_add_right _ 64) hr.units))) (de_vz 2) de_str)
  (dss_cons (ds_set (i := 3) (np hC (by decide)) sc_Course_make.nd rfl (by first | exact Or.inl rfl | exact Or.inr rfl) (do_of (de_peek fun C8 h7 => (de_ixS (ix_s rfl) (de_ixS (ix_s rfl) (de_a cs_calls rfl T.a_calls (de_vz 0)) (de_ixS (ix_s rfl) (de_vz 1) de_int)) de_int))))
  (dss_cons (ds_setI (pok_cons T.a_calls pok_nil) (dp_a cs_calls rfl (dp_v 0)) (fun C10 h9 => (de_ixS (ix_s rfl) (de_vz 1) de_int)) (de_tup (da_cons (de_vz 3) (da_cons de_bl da_nil))))
  (dss_one (ds_append (pok_cons T.a_held pok_nil) (dp_a cs_held rfl (dp_v 0)) (fun C12 h11 => (de_of (do_make tk rfl (hc_Value T) (hr.mono (by decide)) rfl (da_cons (de_ixS (ix_s rfl) (de_vz 1) de_int) (da_cons (de_peek fun C14 h13 => (de_a cs_giver rfl T.a_giver (de_ixS (ix_s rfl) (de_a cs_held rfl T.a_held (de_vz 0)) (de_vz 3)))) (da_cons (de_tup (da_cons (de_vz 3) (da_cons de_int da_nil))) da_nil))))))))))
  (dss_cons (ds_par (i := 4) (j := 5) (np hC (by decide)) (np hC (by decide)) rfl sc_Course_make.nd rfl rfl (by decide) rfl rfl (do_of (de_peek fun C16 h15 => (de_a cs_giver rfl T.a_giver (de_ixS (ix_s rfl) (de_a cs_held rfl T.a_held (de_vz 0)) (de_ixS (ix_s rfl) (de_vz 1) de_int))))) (fun C14 h13 => (do_if (dt_cmpS ((cs_eq rfl hr.units).or (cs_eqL rfl (Nat.lt_of_le_of_lt (Nat.le_add_right _ 64) hr.units))) (de_vz 2) de_str) (do_of de_int) (do_of de_int))) rfl)
  (dss_cons (ds_if (dt_cmpS ((cs_eq rfl hr.units).or (cs_eqL rfl (Nat.lt_of_le_of_lt (Nat.le_add_right _ 64) hr.units))) (de_vz 2) de_str)
  (dss_cons (ds_append (pok_cons T.a_calls pok_nil) (dp_a cs_calls rfl (dp_v 0)) (fun C18 h17 => (de_tup (da_cons (de_ixS (ix_s rfl) (de_vz 1) de_int) (da_cons de_bl da_nil)))))
  (dss_one (ds_set (i := 4) (np hC (by decide)) sc_Course_make.nd rfl (by first | exact Or.inl rfl | exact Or.inr rfl) (do_bin bs_sub de_int (de_vz 4)))))
  dss_nil)
  (dss_one (ds_append (pok_cons T.a_held pok_nil) (dp_a cs_held rfl (dp_v 0)) (fun C20 h19 => (de_of (do_make tk rfl (hc_Value T) (hr.mono (by decide)) rfl (da_cons (de_ixS (ix_s rfl) (de_vz 1) de_int) (da_cons (de_vz 4) (da_cons (de_tup (da_cons (de_ixS (ix_s rfl) (de_vz 1) de_int) (da_cons (de_vz 5) da_nil))) da_nil)))))))))))))
  (dss_one (ds_ret (do_bin bs_sub (de_peek fun C22 h21 => (de_of (do_callS (cl_len rfl) rfl T.n_len (by decide +kernel) (.inl ⟨_, rfl⟩) (da_cons (de_a cs_held rfl T.a_held (de_vz 0)) da_nil)))) de_int))))))))⟩
theorem hm_Course_make (T : TF G mg) : HasM P w G mg base 3 "make" 5 2 (semOf 2 4 [0] D_Course_make.1) := ⟨fun C e0 => by
  obtain ⟨f, fd, e1, e2, e9⟩ := T.d_Course_make C e0
  exact ⟨f, fd, ["self", "move"], e1, e2, fnD e9 sc_Course_make rfl rfl (fun cdv A outer s H E C hr hC => D_Course_make.2 T f cdv A outer s H E C hr hC), e9.bindsN fun _ _ _ _ _ _ us hl => match us, hl with | [_, _], _ => rfl⟩⟩
def ms_make : MS := fun c => if c = 3 then some (semOf 2 4 [0] D_Course_make.1) else none
theorem hm_make (T : TF G mg) : ∀ c sem, ms_make c = some sem → HasM P w G mg base c "make" 5 2 sem := fun c sem e => by
  unfold ms_make at e
  split at e
  · rename_i ec; subst ec; cases e
    exact ⟨fun C e0 => by
      obtain ⟨f, fd, ps, e1, e2, e3, e4⟩ := (hm_Course_make T).ex C e0
      exact ⟨f, fd, ps, e1, e2, e3.mono (by decide), e4⟩⟩
  cases e
set_option maxHeartbeats 4000000 in
def D_Course_could : {g : DL.Env → Out Fl // ∀ [TB] {P : Program} {w : World} {G : Tx} {mg : Str → Option Value} {base : Heap} (T : TF G mg) (f : Addr) (cdv : Value) (A : Around) (outer : List PySem.Env) (s : Shared) (H : Hp) (E : XK) (C : DCtx), Room 0 (A.deeper (envOfC "Course.could" (defScope s_Course_could) s.heap.objs.size f cdv)) → (∀ q ∈ C.pv, q.1 ∈ ([] : List Nat)) →
  DSs (cxOf (L2.CX P w) P w G.K mg base ["self", "shapes", "shape", "found", "number", "value", "words", "word", "is_answered"] "Course.could" (defScope s_Course_could) f cdv A outer s H E) G (fun cls d _ H' => E cls d H') C (defBody s_Course_could) g} := ⟨_, @fun _ P w G mg base T f cdv A outer s H E C hr hC =>
  have tk : Takes (cxOf (L2.CX P w) P w G.K mg base ["self", "shapes", "shape", "found", "number", "value", "words", "word", "is_answered"] "Course.could" (defScope s_Course_could) f cdv A outer s H E) (fun cls d _ H' => E cls d H') := takes_of rfl rfl rfl rfl
  have po : PassesOwn (model P w) (cxOf (L2.CX P w) P w G.K mg base ["self", "shapes", "shape", "found", "number", "value", "words", "word", "is_answered"] "Course.could" (defScope s_Course_could) f cdv A outer s H E).A (cxOf (L2.CX P w) P w G.K mg base ["self", "shapes", "shape", "found", "number", "value", "words", "word", "is_answered"] "Course.could" (defScope s_Course_could) f cdv A outer s H E).env (cxOf (L2.CX P w) P w G.K mg base ["self", "shapes", "shape", "found", "number", "value", "words", "word", "is_answered"] "Course.could" (defScope s_Course_could) f cdv A outer s H E).xe := passes_of rfl
  (dss_cons (ds_frzA 1 (ds_set (i := 1) (np hC (by decide)) sc_Course_could.nd rfl (by first | exact Or.inl rfl | exact Or.inr rfl) (do_lst (da_starRg rfl rfl T.n_range (de_a cs_size rfl T.a_size (de_vz 0)) (da_cons de_str (da_cons de_str da_nil))))))
  (dss_cons (ds_if (dt_cmpS ((cs_eq rfl hr.units).or (cs_eqL rfl (Nat.lt_of_le_of_lt (Nat.le_add_right _ 64) hr.units))) (de_a cs_held rfl T.a_held (de_vz 0)) (de_of (do_lst da_nil)))
  (dss_one (ds_ret (do_lc (own := [("shape", 2)]) rfl sc_Course_could.nd (nps hC (by decide)) (by decide) (di_any rfl (de_vz 1)) (blkOk_by (N := ["self", "shapes", "shape", "found", "number", "value", "words", "word", "is_answered"]) (sc := defScope s_Course_could) (by decide +kernel)) (fun _ _ _ _ _ C2 h1 => (dg_name (i := 2) (np (pv_eq hC h1) (by decide)) sc_Course_could.nd rfl (by first | exact Or.inl rfl | exact Or.inr rfl))) (fun _ _ _ _ _ => dts_nil) (fun _ _ _ _ _ C4 h3 => (de_tup (da_cons de_str (da_cons (de_vz 2) da_nil)))))))
  dss_nil)
  (dss_cons (ds_set (i := 3) (np hC (by decide)) sc_Course_could.nd rfl (by first | exact Or.inl rfl | exact Or.inr rfl) (do_lst da_nil))
  (dss_cons (ds_for po rfl (di_enum rfl rfl T.n_enumerate (da_cons (de_a cs_held rfl T.a_held (de_vz 0)) da_nil)) (dg_tup (n := 2) rfl rfl (dgs_cons (dg_name (i := 4) (np hC (by decide)) sc_Course_could.nd rfl (by first | exact Or.inl rfl | exact Or.inr rfl)) (dgs_cons (dg_name (i := 5) (np hC (by decide)) sc_Course_could.nd rfl (by first | exact Or.inl rfl | exact Or.inr rfl)) dgs_nil)))
  (dss_cons (ds_set (i := 6) (np hC (by decide)) sc_Course_could.nd rfl (by first | exact Or.inl rfl | exact Or.inr rfl) (do_if (dt_cmpS ((cs_eq rfl hr.units).or (cs_eqL rfl (Nat.lt_of_le_of_lt (Nat.le_add_right _ 64) hr.units))) (de_a cs_shape rfl T.a_shape (de_vz 5)) de_str) (do_of (de_tup (da_cons de_str da_nil))) (do_if (dt_cmpS ((cs_eq rfl hr.units).or (cs_eqL rfl (Nat.lt_of_le_of_lt (Nat.le_add_right _ 64) hr.units))) (de_a cs_shape rfl T.a_shape (de_vz 5)) de_str) (do_of (de_tup (da_cons de_str (da_cons de_str da_nil)))) (do_of (de_tup da_nil)))))
  (dss_one (ds_augL (i := 3) sc_Course_could.nd rfl (by first | exact Or.inl rfl | exact Or.inr rfl) (fun C6 h5 => (de_of (do_lc2 (own := [("word", 7), ("shape", 2)]) rfl sc_Course_could.nd (nps (pv_nil (io := []) h5) (by decide)) (by decide) (by decide) (di_any rfl (de_vz 6)) (blkOk_by (N := ["self", "shapes", "shape", "found", "number", "value", "words", "word", "is_answered"]) (sc := defScope s_Course_could) (by decide +kernel)) (fun _ _ _ _ _ C10 h9 => (dg_mono (by decide) (dg_name (i := 7) (np (pv_eq (pv_nil (io := []) h5) h9) (by decide)) sc_Course_could.nd rfl (by first | exact Or.inl rfl | exact Or.inr rfl)))) (fun _ _ _ _ _ => dts_nil) (fun _ _ _ _ _ C12 h11 => (di_any rfl (de_vz 1))) (fun _ _ _ _ _ C14 h13 => (dg_name (i := 2) (np (pv_eq (pv_nil (io := []) h5) h13) (by decide)) sc_Course_could.nd rfl (by first | exact Or.inl rfl | exact Or.inr rfl))) (fun _ _ _ _ _ => dts_nil) (fun _ _ _ _ _ C16 h15 => (de_tup (da_cons (de_vz 7) (da_cons (de_vz 4) (da_cons (de_vz 2) da_nil))))))))))))
  (dss_cons (ds_for po rfl (di_enum rfl rfl T.n_enumerate (da_cons (de_a cs_calls rfl T.a_calls (de_vz 0)) da_nil)) (dg_tup (n := 2) rfl rfl (dgs_cons (dg_name (i := 4) (np hC (by decide)) sc_Course_could.nd rfl (by first | exact Or.inl rfl | exact Or.inr rfl)) (dgs_cons (dg_tup (n := 2) rfl rfl (dgs_cons (dg_name (i := 5) (np hC (by decide)) sc_Course_could.nd rfl (by first | exact Or.inl rfl | exact Or.inr rfl)) (dgs_cons (dg_name (i := 8) (np hC (by decide)) sc_Course_could.nd rfl (by first | exact Or.inl rfl | exact Or.inr rfl)) dgs_nil))) dgs_nil)))
  (dss_one (ds_augL (i := 3) sc_Course_could.nd rfl (by first | exact Or.inl rfl | exact Or.inr rfl) (fun C10 h9 => (de_of (do_lc (own := [("shape", 2)]) rfl sc_Course_could.nd (nps (pv_nil (io := []) h9) (by decide)) (by decide) (di_any rfl (de_vz 1)) (blkOk_by (N := ["self", "shapes", "shape", "found", "number", "value", "words", "word", "is_answered"]) (sc := defScope s_Course_could) (by decide +kernel)) (fun _ _ _ _ _ C14 h13 => (dg_name (i := 2) (np (pv_eq (pv_nil (io := []) h9) h13) (by decide)) sc_Course_could.nd rfl (by first | exact Or.inl rfl | exact Or.inr rfl))) (fun _ _ _ _ _ => dts_one fun C16 h15 => (dt_not (dt_val (de_vz 8)))) (fun _ _ _ _ _ C18 h17 => (de_tup (da_cons de_str (da_cons (de_vz 4) (da_cons (de_vz 2) da_nil)))))))))))
  (dss_one (ds_ret (do_bin (bs_add rfl) (de_vz 3) (de_of (do_lc (own := [("number", 4)]) rfl sc_Course_could.nd (nps hC (by decide)) (by decide) (di_range1 rfl T.n_range (da_cons (de_of (do_callS (cl_len rfl) rfl T.n_len (by decide +kernel) (.inl ⟨_, rfl⟩) (da_cons (de_a cs_held rfl T.a_held (de_vz 0)) da_nil))) da_nil)) (blkOk_by (N := ["self", "shapes", "shape", "found", "number", "value", "words", "word", "is_answered"]) (sc := defScope s_Course_could) (by decide +kernel)) (fun _ _ _ _ _ C14 h13 => (dg_name (i := 4) (np (pv_eq hC h13) (by decide)) sc_Course_could.nd rfl (by first | exact Or.inl rfl | exact Or.inr rfl))) (fun _ _ _ _ _ => dts_nil) (fun _ _ _ _ _ C16 h15 => (de_tup (da_cons de_str (da_cons (de_vz 4) da_nil))))))))))))))⟩
theorem hm_Course_could (T : TF G mg) : HasM P w G mg base 3 "could" 1 1 (semOf 1 8 [] D_Course_could.1) := ⟨fun C e0 => by
  obtain ⟨f, fd, e1, e2, e9⟩ := T.d_Course_could C e0
  exact ⟨f, fd, ["self"], e1, e2, fnD e9 sc_Course_could rfl rfl (fun cdv A outer s H E C hr hC => D_Course_could.2 T f cdv A outer s H E C hr hC), e9.bindsN fun _ _ _ _ _ _ us hl => match us, hl with | [_], _ => rfl⟩⟩
def ms_could : MS := fun c => if c = 3 then some (semOf 1 8 [] D_Course_could.1) else none
theorem hm_could (T : TF G mg) : ∀ c sem, ms_could c = some sem → HasM P w G mg base c "could" 1 1 sem := fun c sem e => by
  unfold ms_could at e
  split at e
  · rename_i ec; subst ec; cases e
    exact ⟨fun C e0 => by
      obtain ⟨f, fd, ps, e1, e2, e3, e4⟩ := (hm_Course_could T).ex C e0
      exact ⟨f, fd, ps, e1, e2, e3.mono (by decide), e4⟩⟩
  cases e
set_option maxHeartbeats 4000000 in
def D_made : {g : DL.Env → Out Fl // ∀ [TB] {P : Program} {w : World} {G : Tx} {mg : Str → Option Value} {base : Heap} (T : TF G mg) (f : Addr) (cdv : Value) (A : Around) (outer : List PySem.Env) (s : Shared) (H : Hp) (E : XK) (C : DCtx), Room 5 (A.deeper (envOfC "made" (defScope s_made) s.heap.objs.size f cdv)) → (∀ q ∈ C.pv, q.1 ∈ ([] : List Nat)) →
  DSs (cxOf (L2.CX P w) P w G.K mg base ["size", "moves", "found", "move"] "made" (defScope s_made) f cdv A outer s H E) G (fun cls d _ H' => E cls d H') C (defBody s_made) g} := ⟨_, @fun _ P w G mg base T f cdv A outer s H E C hr hC =>
  have tk : Takes (cxOf (L2.CX P w) P w G.K mg base ["size", "moves", "found", "move"] "made" (defScope s_made) f cdv A outer s H E) (fun cls d _ H' => E cls d H') := takes_of rfl rfl rfl rfl
  have po : PassesOwn (model P w) (cxOf (L2.CX P w) P w G.K mg base ["size", "moves", "found", "move"] "made" (defScope s_made) f cdv A outer s H E).A (cxOf (L2.CX P w) P w G.K mg base ["size", "moves", "found", "move"] "made" (defScope s_made) f cdv A outer s H E).env (cxOf (L2.CX P w) P w G.K mg base ["size", "moves", "found", "move"] "made" (defScope s_made) f cdv A outer s H E).xe := passes_of rfl
  (dss_cons (ds_if (dt_not (dt_val (de_of (do_call tk rfl (h_is_row T) (hr.mono (by decide)) rfl (da_cons (de_vz 1) da_nil)))))
  (dss_one (ds_raise rfl tk rfl (hx_BadCourse T) (hr.mono (by decide)) rfl (da_cons de_non da_nil)))
  dss_nil)
  (dss_cons (ds_set (i := 2) (np hC (by decide)) sc_made.nd rfl (by first | exact Or.inl rfl | exact Or.inr rfl) (do_make tk rfl (hc_Course T) (hr.mono (by decide)) rfl (da_cons (de_vz 0) da_nil)))
  (dss_cons (ds_for po rfl (di_any rfl (de_vz 1)) (dg_name (i := 3) (np hC (by decide)) sc_made.nd rfl (by first | exact Or.inl rfl | exact Or.inr rfl))
  (dss_one (ds_expr (de_of (do_methio tk rfl (hr.mono (by decide)) (hm_make T) pok_nil (dp_v 2) (fun C2 h1 => (da_cons (de_vz 3) da_nil)))))))
  (dss_one (ds_ret (do_of (de_vz 2)))))))⟩
theorem h_made (T : TF G mg) : Has P w G mg base "made" 6 2 (semOf 2 2 [] D_made.1) := by
  obtain ⟨f, fd, e1, e9⟩ := T.d_made
  exact ⟨f, fd, ["size", "moves"], e1, e9.kp, fnD e9 sc_made rfl rfl (fun cdv A outer s H E C hr hC => D_made.2 T f cdv A outer s H E C hr hC), e9.bindsN fun _ _ _ _ _ _ us hl => match us, hl with | [_, _], _ => rfl⟩
set_option maxHeartbeats 4000000 in
def D_is_course : {g : DL.Env → Out Fl // ∀ [TB] {P : Program} {w : World} {G : Tx} {mg : Str → Option Value} {base : Heap} (T : TF G mg) (f : Addr) (cdv : Value) (A : Around) (outer : List PySem.Env) (s : Shared) (H : Hp) (E : XK) (C : DCtx), Room 6 (A.deeper (envOfC "is_course" (defScope s_is_course) s.heap.objs.size f cdv)) → (∀ q ∈ C.pv, q.1 ∈ ([] : List Nat)) →
  DSs (cxOf (L2.CX P w) P w G.K mg base ["size", "moves"] "is_course" (defScope s_is_course) f cdv A outer s H E) G (fun cls d _ H' => E cls d H') C (defBody s_is_course) g} := ⟨_, @fun _ P w G mg base T f cdv A outer s H E C hr hC =>
  have tk : Takes (cxOf (L2.CX P w) P w G.K mg base ["size", "moves"] "is_course" (defScope s_is_course) f cdv A outer s H E) (fun cls d _ H' => E cls d H') := takes_of rfl rfl rfl rfl
  have po : PassesOwn (model P w) (cxOf (L2.CX P w) P w G.K mg base ["size", "moves"] "is_course" (defScope s_is_course) f cdv A outer s H E).A (cxOf (L2.CX P w) P w G.K mg base ["size", "moves"] "is_course" (defScope s_is_course) f cdv A outer s H E).env (cxOf (L2.CX P w) P w G.K mg base ["size", "moves"] "is_course" (defScope s_is_course) f cdv A outer s H E).xe := passes_of rfl
  (dss_cons (ds_tryO (isx := is_BadCourse) rfl rfl rfl ⟨rfl, by decide, .inl T.k_BadCourse⟩ T.c_BadCourse tk
  (fun W1 pn2 xe3 tk4 po5 => (dss_one (ds_expr (de_of (do_call tk4 rfl (h_made T) (hr.mono (by decide)) rfl (da_cons (de_vz 0) (da_cons (de_vz 1) da_nil)))))))
  (fun a oe pn => (dss_one (ds_ret (do_of de_bl)))))
  (dss_one (ds_ret (do_of de_bl))))⟩
theorem h_is_course (T : TF G mg) : Has P w G mg base "is_course" 7 2 (semOf 2 0 [] D_is_course.1) := by
  obtain ⟨f, fd, e1, e9⟩ := T.d_is_course
  exact ⟨f, fd, ["size", "moves"], e1, e9.kp, fnD e9 sc_is_course rfl rfl (fun cdv A outer s H E C hr hC => D_is_course.2 T f cdv A outer s H E C hr hC), e9.bindsN fun _ _ _ _ _ _ us hl => match us, hl with | [_, _], _ => rfl⟩
set_option maxHeartbeats 4000000 in
def D_path_of : {g : DL.Env → Out Fl // ∀ [TB] {P : Program} {w : World} {G : Tx} {mg : Str → Option Value} {base : Heap} (T : TF G mg) (f : Addr) (cdv : Value) (A : Around) (outer : List PySem.Env) (s : Shared) (H : Hp) (E : XK) (C : DCtx), Room 2 (A.deeper (envOfC "path_of" (defScope s_path_of) s.heap.objs.size f cdv)) → (∀ q ∈ C.pv, q.1 ∈ ([] : List Nat)) →
  DSs (cxOf (L2.CX P w) P w G.K mg base ["course", "number", "found", "place"] "path_of" (defScope s_path_of) f cdv A outer s H E) G (fun cls d _ H' => E cls d H') C (defBody s_path_of) g} := ⟨_, @fun _ P w G mg base T f cdv A outer s H E C hr hC =>
  have tk : Takes (cxOf (L2.CX P w) P w G.K mg base ["course", "number", "found", "place"] "path_of" (defScope s_path_of) f cdv A outer s H E) (fun cls d _ H' => E cls d H') := takes_of rfl rfl rfl rfl
  have po : PassesOwn (model P w) (cxOf (L2.CX P w) P w G.K mg base ["course", "number", "found", "place"] "path_of" (defScope s_path_of) f cdv A outer s H E).A (cxOf (L2.CX P w) P w G.K mg base ["course", "number", "found", "place"] "path_of" (defScope s_path_of) f cdv A outer s H E).env (cxOf (L2.CX P w) P w G.K mg base ["course", "number", "found", "place"] "path_of" (defScope s_path_of) f cdv A outer s H E).xe := passes_of rfl
  (dss_cons (ds_if (dt_w (dw_or (dt_not (dt_val (de_of (do_call tk rfl (h_is_number T) (hr.mono (by decide)) rfl (da_cons (de_vz 1) da_nil))))) (dw_or1 (dt_cmpS cs_ge (de_vz 1) (de_of (do_callS (cl_len rfl) rfl T.n_len (by decide +kernel) (.inl ⟨_, rfl⟩) (da_cons (de_a cs_held rfl T.a_held (de_vz 0)) da_nil)))))))
  (dss_one (ds_raise rfl tk rfl (hx_BadCourse T) (hr.mono (by decide)) rfl (da_cons de_non da_nil)))
  dss_nil)
  (dss_cons (ds_set (i := 2) (np hC (by decide)) sc_path_of.nd rfl (by first | exact Or.inl rfl | exact Or.inr rfl) (do_of (de_tup da_nil)))
  (dss_cons (ds_while 1000 po (dt_cmpS (cs_ne rfl hr.units) (de_a cs_origin rfl T.a_origin (de_ixS (ix_s rfl) (de_a cs_held rfl T.a_held (de_vz 0)) (de_vz 1))) (de_tup da_nil))
  (dss_cons (ds_asg (de_a cs_origin rfl T.a_origin (de_ixS (ix_s rfl) (de_a cs_held rfl T.a_held (de_vz 0)) (de_vz 1))) (dg_tup (n := 2) rfl rfl (dgs_cons (dg_name (i := 1) (np hC (by decide)) sc_path_of.nd rfl (by first | exact Or.inl rfl | exact Or.inr rfl)) (dgs_cons (dg_name (i := 3) (np hC (by decide)) sc_path_of.nd rfl (by first | exact Or.inl rfl | exact Or.inr rfl)) dgs_nil))))
  (dss_one (ds_set (i := 2) (np hC (by decide)) sc_path_of.nd rfl (by first | exact Or.inl rfl | exact Or.inr rfl) (do_of (de_tup (da_cons (de_vz 3) (da_star rfl (de_vz 2) da_nil))))))))
  (dss_one (ds_ret (do_of (de_vz 2)))))))⟩
theorem h_path_of (T : TF G mg) : Has P w G mg base "path_of" 3 2 (semOf 2 2 [] D_path_of.1) := by
  obtain ⟨f, fd, e1, e9⟩ := T.d_path_of
  exact ⟨f, fd, ["course", "number"], e1, e9.kp, fnD e9 sc_path_of rfl rfl (fun cdv A outer s H E C hr hC => D_path_of.2 T f cdv A outer s H E C hr hC), e9.bindsN fun _ _ _ _ _ _ us hl => match us, hl with | [_, _], _ => rfl⟩
set_option maxHeartbeats 4000000 in
def D_law_number : {g : DL.Env → Out Fl // ∀ [TB] {P : Program} {w : World} {G : Tx} {mg : Str → Option Value} {base : Heap} (T : TF G mg) (f : Addr) (cdv : Value) (A : Around) (outer : List PySem.Env) (s : Shared) (H : Hp) (E : XK) (C : DCtx), Room 0 (A.deeper (envOfC "_law_number" (defScope s_law_number) s.heap.objs.size f cdv)) → (∀ q ∈ C.pv, q.1 ∈ ([] : List Nat)) →
  DSs (cxOf (L2.CX P w) P w G.K mg base ["script", "index", "cell", "turn", "rest", "step", "blend"] "_law_number" (defScope s_law_number) f cdv A outer s H E) G (fun cls d _ H' => E cls d H') C (defBody s_law_number) g} := ⟨_, @fun _ P w G mg base T f cdv A outer s H E C hr hC =>
  have tk : Takes (cxOf (L2.CX P w) P w G.K mg base ["script", "index", "cell", "turn", "rest", "step", "blend"] "_law_number" (defScope s_law_number) f cdv A outer s H E) (fun cls d _ H' => E cls d H') := takes_of rfl rfl rfl rfl
  have po : PassesOwn (model P w) (cxOf (L2.CX P w) P w G.K mg base ["script", "index", "cell", "turn", "rest", "step", "blend"] "_law_number" (defScope s_law_number) f cdv A outer s H E).A (cxOf (L2.CX P w) P w G.K mg base ["script", "index", "cell", "turn", "rest", "step", "blend"] "_law_number" (defScope s_law_number) f cdv A outer s H E).env (cxOf (L2.CX P w) P w G.K mg base ["script", "index", "cell", "turn", "rest", "step", "blend"] "_law_number" (defScope s_law_number) f cdv A outer s H E).xe := passes_of rfl
  (dss_cons (ds_asg (de_if (dt_cmpS (cs_ne rfl hr.units) (de_vz 0) (de_of (do_lst da_nil))) (de_tup (da_cons (de_ixS (ix_s rfl) (de_vz 0) (de_of (do_bin bs_mod (de_vz 1) (de_of (do_callS (cl_len rfl) rfl T.n_len (by decide +kernel) (.inl ⟨_, rfl⟩) (da_cons (de_vz 0) da_nil)))))) (da_cons (de_of (do_bin bs_fdiv (de_vz 1) (de_of (do_callS (cl_len rfl) rfl T.n_len (by decide +kernel) (.inl ⟨_, rfl⟩) (da_cons (de_vz 0) da_nil))))) da_nil))) (de_tup (da_cons de_int (da_cons de_int da_nil)))) (dg_tup (n := 2) rfl rfl (dgs_cons (dg_name (i := 2) (np hC (by decide)) sc_law_number.nd rfl (by first | exact Or.inl rfl | exact Or.inr rfl)) (dgs_cons (dg_name (i := 3) (np hC (by decide)) sc_law_number.nd rfl (by first | exact Or.inl rfl | exact Or.inr rfl)) dgs_nil))))
  (dss_cons (ds_set (i := 4) (np hC (by decide)) sc_law_number.nd rfl (by first | exact Or.inl rfl | exact Or.inr rfl) (do_if (dt_cmpS cs_lt (de_vz 3) de_int) (do_bin bs_sub (de_vz 2) (de_of (do_bin bs_pow de_int de_int))) (do_of de_int)))
  (dss_cons (ds_for po rfl (di_range1 rfl T.n_range (da_cons (de_of (do_bin bs_mod (de_of (do_callS cl_int rfl T.n_int (by decide +kernel) (.inr ⟨_, rfl⟩) (da_cons (de_vz 3) da_nil))) de_int)) da_nil)) (dg_name (i := 5) (np hC (by decide)) sc_law_number.nd rfl (by first | exact Or.inl rfl | exact Or.inr rfl))
  (dss_one (ds_set (i := 4) (np hC (by decide)) sc_law_number.nd rfl (by first | exact Or.inl rfl | exact Or.inr rfl) (do_bin bs_fdiv (de_vz 4) de_int))))
  (dss_cons (ds_if (dt_cmpS cs_gt (de_vz 4) de_int)
  (dss_one (ds_ret (do_bin bs_mod (de_of (do_callS cl_int rfl T.n_int (by decide +kernel) (.inr ⟨_, rfl⟩) (da_cons (de_vz 4) da_nil))) de_int)))
  dss_nil)
  (dss_cons (ds_set (i := 6) (np hC (by decide)) sc_law_number.nd rfl (by first | exact Or.inl rfl | exact Or.inr rfl) (do_bin bs_mod (de_of (do_bin (bs_add rfl) (de_of (do_bin bs_mul (de_of (do_callS cl_int rfl T.n_int (by decide +kernel) (.inr ⟨_, rfl⟩) (da_cons (de_of (do_bin (bs_add rfl) (de_vz 2) (de_of (do_bin bs_mul de_int (de_vz 1))))) da_nil))) de_int)) (de_of (do_bin bs_mul de_int (de_of (do_callS (cl_len rfl) rfl T.n_len (by decide +kernel) (.inl ⟨_, rfl⟩) (da_cons (de_vz 0) da_nil))))))) de_int))
  (dss_cons (ds_set (i := 6) (np hC (by decide)) sc_law_number.nd rfl (by first | exact Or.inl rfl | exact Or.inr rfl) (do_bin bs_mod (de_of (do_bin (bs_add rfl) (de_of (do_bin bs_mul (de_vz 6) (de_vz 6))) (de_of (do_bin bs_mul de_int (de_vz 1))))) de_int))
  (dss_one (ds_ret (do_callS cl_int rfl T.n_int (by decide +kernel) (.inr ⟨_, rfl⟩) (da_cons (de_of (do_bin bs_mod (de_of (do_bin (bs_add rfl) (de_of (do_bin bs_mul (de_vz 6) de_int)) (de_of (do_bin bs_fdiv (de_vz 6) de_int)))) de_int)) da_nil))))))))))⟩
theorem h_law_number (T : TF G mg) : Has P w G mg base "_law_number" 1 2 (semOf 2 5 [] D_law_number.1) := by
  obtain ⟨f, fd, e1, e9⟩ := T.d_law_number
  exact ⟨f, fd, ["script", "index"], e1, e9.kp, fnD e9 sc_law_number rfl rfl (fun cdv A outer s H E C hr hC => D_law_number.2 T f cdv A outer s H E C hr hC), e9.bindsN fun _ _ _ _ _ _ us hl => match us, hl with | [_, _], _ => rfl⟩
set_option maxHeartbeats 4000000 in
def D_law_take : {g : DL.Env → Out Fl // ∀ [TB] {P : Program} {w : World} {G : Tx} {mg : Str → Option Value} {base : Heap} (T : TF G mg) (f : Addr) (cdv : Value) (A : Around) (outer : List PySem.Env) (s : Shared) (H : Hp) (E : XK) (C : DCtx), Room 1 (A.deeper (envOfC "_law_take" (defScope s_law_take) s.heap.objs.size f cdv)) → (∀ q ∈ C.pv, q.1 ∈ ([0] : List Nat)) →
  DSs (cxOf (L2.CX P w) P w G.K mg base ["draw", "many"] "_law_take" (defScope s_law_take) f cdv A outer s H E) G (fun cls d _ H' => E cls d H') C (defBody s_law_take) g} := ⟨_, @fun _ P w G mg base T f cdv A outer s H E C hr hC =>
  have tk : Takes (cxOf (L2.CX P w) P w G.K mg base ["draw", "many"] "_law_take" (defScope s_law_take) f cdv A outer s H E) (fun cls d _ H' => E cls d H') := takes_of rfl rfl rfl rfl
  have po : PassesOwn (model P w) (cxOf (L2.CX P w) P w G.K mg base ["draw", "many"] "_law_take" (defScope s_law_take) f cdv A outer s H E).A (cxOf (L2.CX P w) P w G.K mg base ["draw", "many"] "_law_take" (defScope s_law_take) f cdv A outer s H E).env (cxOf (L2.CX P w) P w G.K mg base ["draw", "many"] "_law_take" (defScope s_law_take) f cdv A outer s H E).xe := passes_of rfl
  (dss_cons (ds_augI rfl pok_nil (dp_v 0) (fun C2 h1 => de_int) (fun C4 h3 => de_int))
  (dss_one (ds_ret (do_bin bs_mod (de_peek fun C6 h5 => (de_of (do_callS cl_int rfl T.n_int (by decide +kernel) (.inr ⟨_, rfl⟩) (da_cons (de_of (do_call tk rfl (h_law_number T) (hr.mono (by decide)) rfl (da_cons (de_ixS (ix_s rfl) (de_vz 0) de_int) (da_cons (de_of (do_callS cl_int rfl T.n_int (by decide +kernel) (.inr ⟨_, rfl⟩) (da_cons (de_ixS (ix_s rfl) (de_vz 0) de_int) da_nil))) da_nil)))) da_nil)))) (de_vz 1)))))⟩
theorem h_law_take (T : TF G mg) : Has P w G mg base "_law_take" 2 2 (semOf 2 0 [0] D_law_take.1) := by
  obtain ⟨f, fd, e1, e9⟩ := T.d_law_take
  exact ⟨f, fd, ["draw", "many"], e1, e9.kp, fnD e9 sc_law_take rfl rfl (fun cdv A outer s H E C hr hC => D_law_take.2 T f cdv A outer s H E C hr hC), e9.bindsN fun _ _ _ _ _ _ us hl => match us, hl with | [_, _], _ => rfl⟩
set_option maxHeartbeats 4000000 in
def D_law_pick : {g : DL.Env → Out Fl // ∀ [TB] {P : Program} {w : World} {G : Tx} {mg : Str → Option Value} {base : Heap} (T : TF G mg) (f : Addr) (cdv : Value) (A : Around) (outer : List PySem.Env) (s : Shared) (H : Hp) (E : XK) (C : DCtx), Room 2 (A.deeper (envOfC "_law_pick" (defScope s_law_pick) s.heap.objs.size f cdv)) → (∀ q ∈ C.pv, q.1 ∈ ([0] : List Nat)) →
  DSs (cxOf (L2.CX P w) P w G.K mg base ["draw", "items"] "_law_pick" (defScope s_law_pick) f cdv A outer s H E) G (fun cls d _ H' => E cls d H') C (defBody s_law_pick) g} := ⟨_, @fun _ P w G mg base T f cdv A outer s H E C hr hC =>
  have tk : Takes (cxOf (L2.CX P w) P w G.K mg base ["draw", "items"] "_law_pick" (defScope s_law_pick) f cdv A outer s H E) (fun cls d _ H' => E cls d H') := takes_of rfl rfl rfl rfl
  have po : PassesOwn (model P w) (cxOf (L2.CX P w) P w G.K mg base ["draw", "items"] "_law_pick" (defScope s_law_pick) f cdv A outer s H E).A (cxOf (L2.CX P w) P w G.K mg base ["draw", "items"] "_law_pick" (defScope s_law_pick) f cdv A outer s H E).env (cxOf (L2.CX P w) P w G.K mg base ["draw", "items"] "_law_pick" (defScope s_law_pick) f cdv A outer s H E).xe := passes_of rfl
  (dss_one (ds_ret (do_of (de_ixS (ix_s rfl) (de_vz 1) (de_of (do_callio2 (i := 0) tk rfl (h_law_take T) (hr.mono (by decide)) rfl rfl (by first | exact Or.inl rfl | exact Or.inr (Or.inl rfl) | exact Or.inr (Or.inr rfl)) (da_cons (de_of (do_callS (cl_len rfl) rfl T.n_len (by decide +kernel) (.inl ⟨_, rfl⟩) (da_cons (de_vz 1) da_nil))) da_nil)))))))⟩
theorem h_law_pick (T : TF G mg) : Has P w G mg base "_law_pick" 3 2 (semOf 2 0 [0] D_law_pick.1) := by
  obtain ⟨f, fd, e1, e9⟩ := T.d_law_pick
  exact ⟨f, fd, ["draw", "items"], e1, e9.kp, fnD e9 sc_law_pick rfl rfl (fun cdv A outer s H E C hr hC => D_law_pick.2 T f cdv A outer s H E C hr hC), e9.bindsN fun _ _ _ _ _ _ us hl => match us, hl with | [_, _], _ => rfl⟩
set_option maxHeartbeats 4000000 in
def D_law_shapes : {g : DL.Env → Out Fl // ∀ [TB] {P : Program} {w : World} {G : Tx} {mg : Str → Option Value} {base : Heap} (T : TF G mg) (f : Addr) (cdv : Value) (A : Around) (outer : List PySem.Env) (s : Shared) (H : Hp) (E : XK) (C : DCtx), Room 0 (A.deeper (envOfC "_law_shapes" (defScope s_law_shapes) s.heap.objs.size f cdv)) → (∀ q ∈ C.pv, q.1 ∈ ([] : List Nat)) →
  DSs (cxOf (L2.CX P w) P w G.K mg base ["told"] "_law_shapes" (defScope s_law_shapes) f cdv A outer s H E) G (fun cls d _ H' => E cls d H') C (defBody s_law_shapes) g} := ⟨_, @fun _ P w G mg base T f cdv A outer s H E C hr hC =>
  have tk : Takes (cxOf (L2.CX P w) P w G.K mg base ["told"] "_law_shapes" (defScope s_law_shapes) f cdv A outer s H E) (fun cls d _ H' => E cls d H') := takes_of rfl rfl rfl rfl
  have po : PassesOwn (model P w) (cxOf (L2.CX P w) P w G.K mg base ["told"] "_law_shapes" (defScope s_law_shapes) f cdv A outer s H E).A (cxOf (L2.CX P w) P w G.K mg base ["told"] "_law_shapes" (defScope s_law_shapes) f cdv A outer s H E).env (cxOf (L2.CX P w) P w G.K mg base ["told"] "_law_shapes" (defScope s_law_shapes) f cdv A outer s H E).xe := passes_of rfl
  (dss_one (ds_ret (do_bin (bs_add rfl) (de_of (do_listRg rfl rfl T.n_list rfl T.n_range (de_dget (hu_of hr) (de_vz 0) de_str))) (de_of (do_lst (da_cons de_str (da_cons de_str da_nil)))))))⟩
theorem h_law_shapes (T : TF G mg) : Has P w G mg base "_law_shapes" 1 1 (semOf 1 0 [] D_law_shapes.1) := by
  obtain ⟨f, fd, e1, e9⟩ := T.d_law_shapes
  exact ⟨f, fd, ["told"], e1, e9.kp, fnD e9 sc_law_shapes rfl rfl (fun cdv A outer s H E C hr hC => D_law_shapes.2 T f cdv A outer s H E C hr hC), e9.bindsN fun _ _ _ _ _ _ us hl => match us, hl with | [_], _ => rfl⟩
set_option maxHeartbeats 4000000 in
def D_law_things : {g : DL.Env → Out Fl // ∀ [TB] {P : Program} {w : World} {G : Tx} {mg : Str → Option Value} {base : Heap} (T : TF G mg) (f : Addr) (cdv : Value) (A : Around) (outer : List PySem.Env) (s : Shared) (H : Hp) (E : XK) (C : DCtx), Room 0 (A.deeper (envOfC "_law_things" (defScope s_law_things) s.heap.objs.size f cdv)) → (∀ q ∈ C.pv, q.1 ∈ ([] : List Nat)) →
  DSs (cxOf (L2.CX P w) P w G.K mg base ["moves", "things", "calls", "move", "owner", "giver"] "_law_things" (defScope s_law_things) f cdv A outer s H E) G (fun cls d _ H' => E cls d H') C (defBody s_law_things) g} := ⟨_, @fun _ P w G mg base T f cdv A outer s H E C hr hC =>
  have tk : Takes (cxOf (L2.CX P w) P w G.K mg base ["moves", "things", "calls", "move", "owner", "giver"] "_law_things" (defScope s_law_things) f cdv A outer s H E) (fun cls d _ H' => E cls d H') := takes_of rfl rfl rfl rfl
  have po : PassesOwn (model P w) (cxOf (L2.CX P w) P w G.K mg base ["moves", "things", "calls", "move", "owner", "giver"] "_law_things" (defScope s_law_things) f cdv A outer s H E).A (cxOf (L2.CX P w) P w G.K mg base ["moves", "things", "calls", "move", "owner", "giver"] "_law_things" (defScope s_law_things) f cdv A outer s H E).env (cxOf (L2.CX P w) P w G.K mg base ["moves", "things", "calls", "move", "owner", "giver"] "_law_things" (defScope s_law_things) f cdv A outer s H E).xe := passes_of rfl
  (dss_cons (ds_par (i := 1) (j := 2) (np hC (by decide)) (np hC (by decide)) rfl sc_law_things.nd rfl rfl (by decide) rfl rfl (do_lst da_nil) (fun C2 h1 => (do_lst da_nil)) rfl)
  (dss_cons (ds_for po rfl (di_any rfl (de_vz 0)) (dg_name (i := 3) (np hC (by decide)) sc_law_things.nd rfl (by first | exact Or.inl rfl | exact Or.inr rfl))
  (dss_one (ds_if (dt_cmpS ((cs_eq rfl hr.units).or (cs_eqL rfl (Nat.lt_of_le_of_lt (Nat.le_add_right _ 64) hr.units))) (de_ixS (ix_s rfl) (de_vz 3) de_int) de_str)
  (dss_one (ds_append pok_nil (dp_v 1) (fun C4 h3 => (de_tup (da_cons (de_ixS (ix_s rfl) (de_vz 3) de_int) (da_cons de_int (da_cons de_non da_nil)))))))
  (dss_one (ds_if (dt_cmpS ((cs_eq rfl hr.units).or (cs_eqL rfl (Nat.lt_of_le_of_lt (Nat.le_add_right _ 64) hr.units))) (de_ixS (ix_s rfl) (de_vz 3) de_int) de_str)
  (dss_cons (ds_set (i := 4) (np hC (by decide)) sc_law_things.nd rfl (by first | exact Or.inl rfl | exact Or.inr rfl) (do_of (de_ixS (ix_s rfl) (de_ixS (ix_s rfl) (de_vz 2) (de_ixS (ix_s rfl) (de_vz 3) de_int)) de_int)))
  (dss_cons (ds_set (i := 2) (np hC (by decide)) sc_law_things.nd rfl (by first | exact Or.inl rfl | exact Or.inr rfl) (do_bin (bs_add rfl) (de_of (do_bin (bs_add rfl) (de_of (do_slice rfl (de_vz 2) dpo_none (dpo_some (de_ixS (ix_s rfl) (de_vz 3) de_int)))) (de_of (do_lst (da_cons (de_tup (da_cons (de_vz 4) (da_cons de_bl da_nil))) da_nil))))) (de_of (do_slice rfl (de_vz 2) (dpo_some (de_of (do_bin (bs_add rfl) (de_ixS (ix_s rfl) (de_vz 3) de_int) de_int))) dpo_none))))
  (dss_one (ds_append pok_nil (dp_v 1) (fun C6 h5 => (de_tup (da_cons (de_ixS (ix_s rfl) (de_vz 3) de_int) (da_cons (de_peek fun C8 h7 => (de_ixS (ix_s rfl) (de_ixS (ix_s rfl) (de_vz 1) (de_vz 4)) de_int)) (da_cons (de_tup (da_cons (de_vz 4) (da_cons de_int da_nil))) da_nil)))))))))
  (dss_one (ds_if (dt_cmpS (cs_ne rfl hr.units) (de_ixS (ix_s rfl) (de_vz 3) de_int) de_str)
  (dss_cons (ds_set (i := 5) (np hC (by decide)) sc_law_things.nd rfl (by first | exact Or.inl rfl | exact Or.inr rfl) (do_of (de_peek fun C8 h7 => (de_if (dt_cmpS ((cs_eq rfl hr.units).or (cs_eqL rfl (Nat.lt_of_le_of_lt (Nat.le_add_right _ 64) hr.units))) (de_ixS (ix_s rfl) (de_vz 3) de_int) de_str) (de_of (do_bin bs_sub de_int (de_ixS (ix_s rfl) (de_ixS (ix_s rfl) (de_vz 1) (de_ixS (ix_s rfl) (de_vz 3) de_int)) de_int))) (de_ixS (ix_s rfl) (de_ixS (ix_s rfl) (de_vz 1) (de_ixS (ix_s rfl) (de_vz 3) de_int)) de_int)))))
  (dss_cons (ds_set (i := 2) (np hC (by decide)) sc_law_things.nd rfl (by first | exact Or.inl rfl | exact Or.inr rfl) (do_bin (bs_add rfl) (de_vz 2) (de_if (dt_cmpS ((cs_eq rfl hr.units).or (cs_eqL rfl (Nat.lt_of_le_of_lt (Nat.le_add_right _ 64) hr.units))) (de_ixS (ix_s rfl) (de_vz 3) de_int) de_str) (de_of (do_lst (da_cons (de_tup (da_cons (de_ixS (ix_s rfl) (de_vz 3) de_int) (da_cons de_bl da_nil))) da_nil))) (de_of (do_lst da_nil)))))
  (dss_one (ds_append pok_nil (dp_v 1) (fun C10 h9 => (de_tup (da_cons (de_ixS (ix_s rfl) (de_vz 3) de_int) (da_cons (de_vz 5) (da_cons (de_tup (da_cons (de_ixS (ix_s rfl) (de_vz 3) de_int) (da_cons (de_if (dt_cmpS ((cs_eq rfl hr.units).or (cs_eqL rfl (Nat.lt_of_le_of_lt (Nat.le_add_right _ 64) hr.units))) (de_ixS (ix_s rfl) (de_vz 3) de_int) de_str) de_int de_int) da_nil))) da_nil)))))))))
  dss_nil)))))))
  (dss_one (ds_ret (do_of (de_tup (da_cons (de_vz 1) (da_cons (de_vz 2) da_nil))))))))⟩
theorem h_law_things (T : TF G mg) : Has P w G mg base "_law_things" 1 1 (semOf 1 5 [] D_law_things.1) := by
  obtain ⟨f, fd, e1, e9⟩ := T.d_law_things
  exact ⟨f, fd, ["moves"], e1, e9.kp, fnD e9 sc_law_things rfl rfl (fun cdv A outer s H E C hr hC => D_law_things.2 T f cdv A outer s H E C hr hC), e9.bindsN fun _ _ _ _ _ _ us hl => match us, hl with | [_], _ => rfl⟩
set_option maxHeartbeats 4000000 in
def D_law_could : {g : DL.Env → Out Fl // ∀ [TB] {P : Program} {w : World} {G : Tx} {mg : Str → Option Value} {base : Heap} (T : TF G mg) (f : Addr) (cdv : Value) (A : Around) (outer : List PySem.Env) (s : Shared) (H : Hp) (E : XK) (C : DCtx), Room 1 (A.deeper (envOfC "_law_could" (defScope s_law_could) s.heap.objs.size f cdv)) → (∀ q ∈ C.pv, q.1 ∈ ([] : List Nat)) →
  DSs (cxOf (L2.CX P w) P w G.K mg base ["told", "moves", "shapes", "shape", "things", "calls", "found", "number", "giver", "origin", "word", "one", "owner", "is_answered"] "_law_could" (defScope s_law_could) f cdv A outer s H E) G (fun cls d _ H' => E cls d H') C (defBody s_law_could) g} := ⟨_, @fun _ P w G mg base T f cdv A outer s H E C hr hC =>
  have tk : Takes (cxOf (L2.CX P w) P w G.K mg base ["told", "moves", "shapes", "shape", "things", "calls", "found", "number", "giver", "origin", "word", "one", "owner", "is_answered"] "_law_could" (defScope s_law_could) f cdv A outer s H E) (fun cls d _ H' => E cls d H') := takes_of rfl rfl rfl rfl
  have po : PassesOwn (model P w) (cxOf (L2.CX P w) P w G.K mg base ["told", "moves", "shapes", "shape", "things", "calls", "found", "number", "giver", "origin", "word", "one", "owner", "is_answered"] "_law_could" (defScope s_law_could) f cdv A outer s H E).A (cxOf (L2.CX P w) P w G.K mg base ["told", "moves", "shapes", "shape", "things", "calls", "found", "number", "giver", "origin", "word", "one", "owner", "is_answered"] "_law_could" (defScope s_law_could) f cdv A outer s H E).env (cxOf (L2.CX P w) P w G.K mg base ["told", "moves", "shapes", "shape", "things", "calls", "found", "number", "giver", "origin", "word", "one", "owner", "is_answered"] "_law_could" (defScope s_law_could) f cdv A outer s H E).xe := passes_of rfl
  (dss_cons (ds_set (i := 2) (np hC (by decide)) sc_law_could.nd rfl (by first | exact Or.inl rfl | exact Or.inr rfl) (do_call tk rfl (h_law_shapes T) (hr.mono (by decide)) rfl (da_cons (de_vz 0) da_nil)))
  (dss_cons (ds_if (dt_cmpS ((cs_eq rfl hr.units).or (cs_eqL rfl (Nat.lt_of_le_of_lt (Nat.le_add_right _ 64) hr.units))) (de_vz 1) (de_of (do_lst da_nil)))
  (dss_one (ds_ret (do_lc (own := [("shape", 3)]) rfl sc_law_could.nd (nps hC (by decide)) (by decide) (di_any rfl (de_vz 2)) (blkOk_by (N := ["told", "moves", "shapes", "shape", "things", "calls", "found", "number", "giver", "origin", "word", "one", "owner", "is_answered"]) (sc := defScope s_law_could) (by decide +kernel)) (fun _ _ _ _ _ C2 h1 => (dg_name (i := 3) (np (pv_eq hC h1) (by decide)) sc_law_could.nd rfl (by first | exact Or.inl rfl | exact Or.inr rfl))) (fun _ _ _ _ _ => dts_nil) (fun _ _ _ _ _ C4 h3 => (de_tup (da_cons de_str (da_cons (de_vz 3) da_nil)))))))
  dss_nil)
  (dss_cons (ds_asg (de_of (do_call tk rfl (h_law_things T) (hr.mono (by decide)) rfl (da_cons (de_vz 1) da_nil))) (dg_tup (n := 2) rfl rfl (dgs_cons (dg_name (i := 4) (np hC (by decide)) sc_law_could.nd rfl (by first | exact Or.inl rfl | exact Or.inr rfl)) (dgs_cons (dg_name (i := 5) (np hC (by decide)) sc_law_could.nd rfl (by first | exact Or.inl rfl | exact Or.inr rfl)) dgs_nil))))
  (dss_cons (ds_set (i := 6) (np hC (by decide)) sc_law_could.nd rfl (by first | exact Or.inl rfl | exact Or.inr rfl) (do_lst da_nil))
  (dss_cons (ds_for po rfl (di_enum rfl rfl T.n_enumerate (da_cons (de_vz 4) da_nil)) (dg_tup (n := 2) rfl rfl (dgs_cons (dg_name (i := 7) (np hC (by decide)) sc_law_could.nd rfl (by first | exact Or.inl rfl | exact Or.inr rfl)) (dgs_cons (dg_tup (n := 3) rfl rfl (dgs_cons (dg_name (i := 3) (np hC (by decide)) sc_law_could.nd rfl (by first | exact Or.inl rfl | exact Or.inr rfl)) (dgs_cons (dg_name (i := 8) (np hC (by decide)) sc_law_could.nd rfl (by first | exact Or.inl rfl | exact Or.inr rfl)) (dgs_cons (dg_name (i := 9) (np hC (by decide)) sc_law_could.nd rfl (by first | exact Or.inl rfl | exact Or.inr rfl)) dgs_nil)))) dgs_nil)))
  (dss_one (ds_for po rfl (di_any rfl (de_if (dt_cmpS ((cs_eq rfl hr.units).or (cs_eqL rfl (Nat.lt_of_le_of_lt (Nat.le_add_right _ 64) hr.units))) (de_vz 3) de_str) (de_of (do_lst (da_cons de_str da_nil))) (de_if (dt_cmpS ((cs_eq rfl hr.units).or (cs_eqL rfl (Nat.lt_of_le_of_lt (Nat.le_add_right _ 64) hr.units))) (de_vz 3) de_str) (de_of (do_lst (da_cons de_str (da_cons de_str da_nil)))) (de_of (do_lst da_nil))))) (dg_name (i := 10) (np hC (by decide)) sc_law_could.nd rfl (by first | exact Or.inl rfl | exact Or.inr rfl))
  (dss_one (ds_set (i := 6) (np hC (by decide)) sc_law_could.nd rfl (by first | exact Or.inl rfl | exact Or.inr rfl) (do_bin (bs_add rfl) (de_vz 6) (de_of (do_lc (own := [("one", 11)]) rfl sc_law_could.nd (nps hC (by decide)) (by decide) (di_any rfl (de_vz 2)) (blkOk_by (N := ["told", "moves", "shapes", "shape", "things", "calls", "found", "number", "giver", "origin", "word", "one", "owner", "is_answered"]) (sc := defScope s_law_could) (by decide +kernel)) (fun _ _ _ _ _ C6 h5 => (dg_name (i := 11) (np (pv_eq hC h5) (by decide)) sc_law_could.nd rfl (by first | exact Or.inl rfl | exact Or.inr rfl))) (fun _ _ _ _ _ => dts_nil) (fun _ _ _ _ _ C8 h7 => (de_tup (da_cons (de_vz 10) (da_cons (de_vz 7) (da_cons (de_vz 11) da_nil)))))))))))))
  (dss_cons (ds_for po rfl (di_enum rfl rfl T.n_enumerate (da_cons (de_vz 5) da_nil)) (dg_tup (n := 2) rfl rfl (dgs_cons (dg_name (i := 7) (np hC (by decide)) sc_law_could.nd rfl (by first | exact Or.inl rfl | exact Or.inr rfl)) (dgs_cons (dg_tup (n := 2) rfl rfl (dgs_cons (dg_name (i := 12) (np hC (by decide)) sc_law_could.nd rfl (by first | exact Or.inl rfl | exact Or.inr rfl)) (dgs_cons (dg_name (i := 13) (np hC (by decide)) sc_law_could.nd rfl (by first | exact Or.inl rfl | exact Or.inr rfl)) dgs_nil))) dgs_nil)))
  (dss_one (ds_set (i := 6) (np hC (by decide)) sc_law_could.nd rfl (by first | exact Or.inl rfl | exact Or.inr rfl) (do_bin (bs_add rfl) (de_vz 6) (de_if (dt_not (dt_val (de_vz 13))) (de_of (do_lc (own := [("one", 11)]) rfl sc_law_could.nd (nps hC (by decide)) (by decide) (di_any rfl (de_vz 2)) (blkOk_by (N := ["told", "moves", "shapes", "shape", "things", "calls", "found", "number", "giver", "origin", "word", "one", "owner", "is_answered"]) (sc := defScope s_law_could) (by decide +kernel)) (fun _ _ _ _ _ C10 h9 => (dg_name (i := 11) (np (pv_eq hC h9) (by decide)) sc_law_could.nd rfl (by first | exact Or.inl rfl | exact Or.inr rfl))) (fun _ _ _ _ _ => dts_nil) (fun _ _ _ _ _ C12 h11 => (de_tup (da_cons de_str (da_cons (de_vz 7) (da_cons (de_vz 11) da_nil))))))) (de_of (do_lst da_nil)))))))
  (dss_one (ds_ret (do_bin (bs_add rfl) (de_vz 6) (de_of (do_lc (own := [("number", 7)]) rfl sc_law_could.nd (nps hC (by decide)) (by decide) (di_range1 rfl T.n_range (da_cons (de_of (do_callS (cl_len rfl) rfl T.n_len (by decide +kernel) (.inl ⟨_, rfl⟩) (da_cons (de_vz 4) da_nil))) da_nil)) (blkOk_by (N := ["told", "moves", "shapes", "shape", "things", "calls", "found", "number", "giver", "origin", "word", "one", "owner", "is_answered"]) (sc := defScope s_law_could) (by decide +kernel)) (fun _ _ _ _ _ C14 h13 => (dg_name (i := 7) (np (pv_eq hC h13) (by decide)) sc_law_could.nd rfl (by first | exact Or.inl rfl | exact Or.inr rfl))) (fun _ _ _ _ _ => dts_nil) (fun _ _ _ _ _ C16 h15 => (de_tup (da_cons de_str (da_cons (de_vz 7) da_nil)))))))))))))))⟩
theorem h_law_could (T : TF G mg) : Has P w G mg base "_law_could" 2 2 (semOf 2 12 [] D_law_could.1) := by
  obtain ⟨f, fd, e1, e9⟩ := T.d_law_could
  exact ⟨f, fd, ["told", "moves"], e1, e9.kp, fnD e9 sc_law_could rfl rfl (fun cdv A outer s H E C hr hC => D_law_could.2 T f cdv A outer s H E C hr hC), e9.bindsN fun _ _ _ _ _ _ us hl => match us, hl with | [_, _], _ => rfl⟩
set_option maxHeartbeats 4000000 in
def D_law_course : {g : DL.Env → Out Fl // ∀ [TB] {P : Program} {w : World} {G : Tx} {mg : Str → Option Value} {base : Heap} (T : TF G mg) (f : Addr) (cdv : Value) (A : Around) (outer : List PySem.Env) (s : Shared) (H : Hp) (E : XK) (C : DCtx), Room 3 (A.deeper (envOfC "_law_course" (defScope s_law_course) s.heap.objs.size f cdv)) → (∀ q ∈ C.pv, q.1 ∈ ([0] : List Nat)) →
  DSs (cxOf (L2.CX P w) P w G.K mg base ["draw", "told", "many", "found", "turn"] "_law_course" (defScope s_law_course) f cdv A outer s H E) G (fun cls d _ H' => E cls d H') C (defBody s_law_course) g} := ⟨_, @fun _ P w G mg base T f cdv A outer s H E C hr hC =>
  have tk : Takes (cxOf (L2.CX P w) P w G.K mg base ["draw", "told", "many", "found", "turn"] "_law_course" (defScope s_law_course) f cdv A outer s H E) (fun cls d _ H' => E cls d H') := takes_of rfl rfl rfl rfl
  have po : PassesOwn (model P w) (cxOf (L2.CX P w) P w G.K mg base ["draw", "told", "many", "found", "turn"] "_law_course" (defScope s_law_course) f cdv A outer s H E).A (cxOf (L2.CX P w) P w G.K mg base ["draw", "told", "many", "found", "turn"] "_law_course" (defScope s_law_course) f cdv A outer s H E).env (cxOf (L2.CX P w) P w G.K mg base ["draw", "told", "many", "found", "turn"] "_law_course" (defScope s_law_course) f cdv A outer s H E).xe := passes_of rfl
  (dss_cons (ds_set (i := 3) (np hC (by decide)) sc_law_course.nd rfl (by first | exact Or.inl rfl | exact Or.inr rfl) (do_lst da_nil))
  (dss_cons (ds_for po rfl (di_range1 rfl T.n_range (da_cons (de_vz 2) da_nil)) (dg_name (i := 4) (np hC (by decide)) sc_law_course.nd rfl (by first | exact Or.inl rfl | exact Or.inr rfl))
  (dss_one (ds_set (i := 3) (np hC (by decide)) sc_law_course.nd rfl (by first | exact Or.inl rfl | exact Or.inr rfl) (do_bin (bs_add rfl) (de_vz 3) (de_of (do_lst (da_cons (de_of (do_callio2 (i := 0) tk rfl (h_law_pick T) (hr.mono (by decide)) rfl rfl (by first | exact Or.inl rfl | exact Or.inr (Or.inl rfl) | exact Or.inr (Or.inr rfl)) (da_cons (de_of (do_call tk rfl (h_law_could T) (hr.mono (by decide)) rfl (da_cons (de_vz 1) (da_cons (de_vz 3) da_nil)))) da_nil))) da_nil)))))))
  (dss_one (ds_ret (do_of (de_vz 3))))))⟩
theorem h_law_course (T : TF G mg) : Has P w G mg base "_law_course" 4 3 (semOf 3 2 [0] D_law_course.1) := by
  obtain ⟨f, fd, e1, e9⟩ := T.d_law_course
  exact ⟨f, fd, ["draw", "told", "many"], e1, e9.kp, fnD e9 sc_law_course rfl rfl (fun cdv A outer s H E C hr hC => D_law_course.2 T f cdv A outer s H E C hr hC), e9.bindsN fun _ _ _ _ _ _ us hl => match us, hl with | [_, _, _], _ => rfl⟩
set_option maxHeartbeats 4000000 in
def D_law_path : {g : DL.Env → Out Fl // ∀ [TB] {P : Program} {w : World} {G : Tx} {mg : Str → Option Value} {base : Heap} (T : TF G mg) (f : Addr) (cdv : Value) (A : Around) (outer : List PySem.Env) (s : Shared) (H : Hp) (E : XK) (C : DCtx), Room 0 (A.deeper (envOfC "_law_path" (defScope s_law_path) s.heap.objs.size f cdv)) → (∀ q ∈ C.pv, q.1 ∈ ([] : List Nat)) →
  DSs (cxOf (L2.CX P w) P w G.K mg base ["things", "number", "found", "turn", "place"] "_law_path" (defScope s_law_path) f cdv A outer s H E) G (fun cls d _ H' => E cls d H') C (defBody s_law_path) g} := ⟨_, @fun _ P w G mg base T f cdv A outer s H E C hr hC =>
  have tk : Takes (cxOf (L2.CX P w) P w G.K mg base ["things", "number", "found", "turn", "place"] "_law_path" (defScope s_law_path) f cdv A outer s H E) (fun cls d _ H' => E cls d H') := takes_of rfl rfl rfl rfl
  have po : PassesOwn (model P w) (cxOf (L2.CX P w) P w G.K mg base ["things", "number", "found", "turn", "place"] "_law_path" (defScope s_law_path) f cdv A outer s H E).A (cxOf (L2.CX P w) P w G.K mg base ["things", "number", "found", "turn", "place"] "_law_path" (defScope s_law_path) f cdv A outer s H E).env (cxOf (L2.CX P w) P w G.K mg base ["things", "number", "found", "turn", "place"] "_law_path" (defScope s_law_path) f cdv A outer s H E).xe := passes_of rfl
  (dss_cons (ds_frzA 2 (ds_set (i := 2) (np hC (by decide)) sc_law_path.nd rfl (by first | exact Or.inl rfl | exact Or.inr rfl) (do_lst da_nil)))
  (dss_cons (ds_for po rfl (di_range1 rfl T.n_range (da_cons (de_of (do_callS (cl_len rfl) rfl T.n_len (by decide +kernel) (.inl ⟨_, rfl⟩) (da_cons (de_vz 0) da_nil))) da_nil)) (dg_name (i := 3) (np hC (by decide)) sc_law_path.nd rfl (by first | exact Or.inl rfl | exact Or.inr rfl))
  (dss_one (ds_if (dt_cmpS cs_isnot (de_ixS (ix_s rfl) (de_ixS (ix_s rfl) (de_vz 0) (de_vz 1)) de_int) de_non)
  (dss_cons (ds_asg (de_ixS (ix_s rfl) (de_ixS (ix_s rfl) (de_vz 0) (de_vz 1)) de_int) (dg_tup (n := 2) rfl rfl (dgs_cons (dg_name (i := 1) (np hC (by decide)) sc_law_path.nd rfl (by first | exact Or.inl rfl | exact Or.inr rfl)) (dgs_cons (dg_name (i := 4) (np hC (by decide)) sc_law_path.nd rfl (by first | exact Or.inl rfl | exact Or.inr rfl)) dgs_nil))))
  (dss_one (ds_frzA 2 (ds_set (i := 2) (np hC (by decide)) sc_law_path.nd rfl (by first | exact Or.inl rfl | exact Or.inr rfl) (do_bin (bs_add rfl) (de_of (do_lst (da_cons (de_vz 4) da_nil))) (de_vz 2))))))
  dss_nil)))
  (dss_one (ds_ret (do_callS (cl_tuple rfl) rfl T.n_tuple (by decide +kernel) (.inr ⟨_, rfl⟩) (da_cons (de_vz 2) da_nil))))))⟩
theorem h_law_path (T : TF G mg) : Has P w G mg base "_law_path" 1 2 (semOf 2 3 [] D_law_path.1) := by
  obtain ⟨f, fd, e1, e9⟩ := T.d_law_path
  exact ⟨f, fd, ["things", "number"], e1, e9.kp, fnD e9 sc_law_path rfl rfl (fun cdv A outer s H E C hr hC => D_law_path.2 T f cdv A outer s H E C hr hC), e9.bindsN fun _ _ _ _ _ _ us hl => match us, hl with | [_, _], _ => rfl⟩
set_option maxHeartbeats 4000000 in
def D_law_first_bad : {g : DL.Env → Out Fl // ∀ [TB] {P : Program} {w : World} {G : Tx} {mg : Str → Option Value} {base : Heap} (T : TF G mg) (f : Addr) (cdv : Value) (A : Around) (outer : List PySem.Env) (s : Shared) (H : Hp) (E : XK) (C : DCtx), Room 2 (A.deeper (envOfC "_law_first_bad" (defScope s_law_first_bad) s.heap.objs.size f cdv)) → (∀ q ∈ C.pv, q.1 ∈ ([] : List Nat)) →
  DSs (cxOf (L2.CX P w) P w G.K mg base ["told", "late", "at"] "_law_first_bad" (defScope s_law_first_bad) f cdv A outer s H E) G (fun cls d _ H' => E cls d H') C (defBody s_law_first_bad) g} := ⟨_, @fun _ P w G mg base T f cdv A outer s H E C hr hC =>
  have tk : Takes (cxOf (L2.CX P w) P w G.K mg base ["told", "late", "at"] "_law_first_bad" (defScope s_law_first_bad) f cdv A outer s H E) (fun cls d _ H' => E cls d H') := takes_of rfl rfl rfl rfl
  have po : PassesOwn (model P w) (cxOf (L2.CX P w) P w G.K mg base ["told", "late", "at"] "_law_first_bad" (defScope s_law_first_bad) f cdv A outer s H E).A (cxOf (L2.CX P w) P w G.K mg base ["told", "late", "at"] "_law_first_bad" (defScope s_law_first_bad) f cdv A outer s H E).env (cxOf (L2.CX P w) P w G.K mg base ["told", "late", "at"] "_law_first_bad" (defScope s_law_first_bad) f cdv A outer s H E).xe := passes_of rfl
  (dss_cons (ds_for po rfl (di_range1 rfl T.n_range (da_cons (de_of (do_callS (cl_len rfl) rfl T.n_len (by decide +kernel) (.inl ⟨_, rfl⟩) (da_cons (de_vz 1) da_nil))) da_nil)) (dg_name (i := 2) (np hC (by decide)) sc_law_first_bad.nd rfl (by first | exact Or.inl rfl | exact Or.inr rfl))
  (dss_one (ds_if (dt_cmpS (cs_notin rfl (hu65 hr)) (de_ixS (ix_s rfl) (de_vz 1) (de_vz 2)) (de_of (do_call tk rfl (h_law_could T) (hr.mono (by decide)) rfl (da_cons (de_vz 0) (da_cons (de_of (do_slice rfl (de_vz 1) dpo_none (dpo_some (de_vz 2)))) da_nil)))))
  (dss_one (ds_ret (do_of (de_vz 2))))
  dss_nil)))
  (dss_one (ds_ret (do_of de_non))))⟩
theorem h_law_first_bad (T : TF G mg) : Has P w G mg base "_law_first_bad" 3 2 (semOf 2 1 [] D_law_first_bad.1) := by
  obtain ⟨f, fd, e1, e9⟩ := T.d_law_first_bad
  exact ⟨f, fd, ["told", "late"], e1, e9.kp, fnD e9 sc_law_first_bad rfl rfl (fun cdv A outer s H E C hr hC => D_law_first_bad.2 T f cdv A outer s H E C hr hC), e9.bindsN fun _ _ _ _ _ _ us hl => match us, hl with | [_, _], _ => rfl⟩
set_option maxHeartbeats 8000000 in
def D_law : {g : List (Str × Addr) → DL.Env → Out Fl // ∀ [TB] {P : Program} {w : World} {G : Tx} {mg : Str → Option Value} {base : Heap} (T : TF G mg) (f c P1 : Addr) (A : Around) (outer : List PySem.Env) (s : Shared) (H : Hp) (E : XK) (C : DCtx) (cl : List (Str × Addr)), (cxOf (L2.CX P w) P w G.K mg base ["script", "draw", "told", "moves", "course", "things", "calls", "one", "shape", "giver", "origin", "move", "number", "words", "shapes", "turn", "rows", "can", "spot", "late", "bad", "fault", "word", "empty", "deed"] "law" (defScope s_law) f (.ref c) A outer s H E).env.cells = cl → TabB base mg c P1 → (P1, (cxOf (L2.CX P w) P w G.K mg base ["script", "draw", "told", "moves", "course", "things", "calls", "one", "shape", "giver", "origin", "move", "number", "words", "shapes", "turn", "rows", "can", "spot", "late", "bad", "fault", "word", "empty", "deed"] "law" (defScope s_law) f (.ref c) A outer s H E).env.qual ++ "<lambda>") ∈ TB.tb → (∀ p ∈ TB.tb, p.1 = P1 → p.2 = (cxOf (L2.CX P w) P w G.K mg base ["script", "draw", "told", "moves", "course", "things", "calls", "one", "shape", "giver", "origin", "move", "number", "words", "shapes", "turn", "rows", "can", "spot", "late", "bad", "fault", "word", "empty", "deed"] "law" (defScope s_law) f (.ref c) A outer s H E).env.qual ++ "<lambda>") → Room 8 (A.deeper (envOfC "law" (defScope s_law) s.heap.objs.size f (.ref c))) → (∀ q ∈ C.pv, q.1 ∈ ([] : List Nat)) →
  DSs (cxOf (L2.CX P w) P w G.K mg base ["script", "draw", "told", "moves", "course", "things", "calls", "one", "shape", "giver", "origin", "move", "number", "words", "shapes", "turn", "rows", "can", "spot", "late", "bad", "fault", "word", "empty", "deed"] "law" (defScope s_law) f (.ref c) A outer s H E) G (fun cls d _ H' => E cls d H') C (defBody s_law) (g cl)} := ⟨fun cl => _, @fun _ P w G mg base T f c P1 A outer s H E C cl hcl TB1 hm hu hr hC =>
  have tk : Takes (cxOf (L2.CX P w) P w G.K mg base ["script", "draw", "told", "moves", "course", "things", "calls", "one", "shape", "giver", "origin", "move", "number", "words", "shapes", "turn", "rows", "can", "spot", "late", "bad", "fault", "word", "empty", "deed"] "law" (defScope s_law) f (.ref c) A outer s H E) (fun cls d _ H' => E cls d H') := takes_of rfl rfl rfl rfl
  have po : PassesOwn (model P w) (cxOf (L2.CX P w) P w G.K mg base ["script", "draw", "told", "moves", "course", "things", "calls", "one", "shape", "giver", "origin", "move", "number", "words", "shapes", "turn", "rows", "can", "spot", "late", "bad", "fault", "word", "empty", "deed"] "law" (defScope s_law) f (.ref c) A outer s H E).A (cxOf (L2.CX P w) P w G.K mg base ["script", "draw", "told", "moves", "course", "things", "calls", "one", "shape", "giver", "origin", "move", "number", "words", "shapes", "turn", "rows", "can", "spot", "late", "bad", "fault", "word", "empty", "deed"] "law" (defScope s_law) f (.ref c) A outer s H E).env (cxOf (L2.CX P w) P w G.K mg base ["script", "draw", "told", "moves", "course", "things", "calls", "one", "shape", "giver", "origin", "move", "number", "words", "shapes", "turn", "rows", "can", "spot", "late", "bad", "fault", "word", "empty", "deed"] "law" (defScope s_law) f (.ref c) A outer s H E).xe := passes_of rfl
  (dss_cons (ds_set (i := 1) (np hC (by decide)) sc_law.nd rfl (by first | exact Or.inl rfl | exact Or.inr rfl) (do_lst (da_cons (de_vz 0) (da_cons de_int da_nil))))
  (dss_cons (ds_frzA 2 (ds_set (i := 2) (np hC (by decide)) sc_law.nd rfl (by first | exact Or.inl rfl | exact Or.inr rfl) (do_disp (dpps_cons (fun C6 h5 => de_str) (fun C8 h7 => (de_of (do_bin (bs_add rfl) de_int (de_of (do_callio2 (i := 1) tk rfl (h_law_take T) (hr.mono (by decide)) rfl rfl (by first | exact Or.inl rfl | exact Or.inr (Or.inl rfl) | exact Or.inr (Or.inr rfl)) (da_cons de_int da_nil)))))) (dpps_cons (fun C2 h1 => de_str) (fun C4 h3 => (de_of do_dnew)) dpps_nil)))))
  (dss_cons (ds_frzA 3 (ds_set (i := 3) (np hC (by decide)) sc_law.nd rfl (by first | exact Or.inl rfl | exact Or.inr rfl) (do_callio2 (i := 1) tk rfl (h_law_course T) (hr.mono (by decide)) rfl rfl (by first | exact Or.inl rfl | exact Or.inr (Or.inl rfl) | exact Or.inr (Or.inr rfl)) (da_cons (de_vz 2) (da_cons (de_of (do_bin (bs_add rfl) de_int (de_of (do_callio2 (i := 1) tk rfl (h_law_take T) (hr.mono (by decide)) rfl rfl (by first | exact Or.inl rfl | exact Or.inr (Or.inl rfl) | exact Or.inr (Or.inr rfl)) (da_cons de_int da_nil))))) da_nil)))))
  (dss_cons (ds_frzA 4 (ds_set (i := 4) (np hC (by decide)) sc_law.nd rfl (by first | exact Or.inl rfl | exact Or.inr rfl) (do_call tk rfl (h_made T) (hr.mono (by decide)) rfl (da_cons (de_dget (hu_of hr) (de_vz 2) de_str) (da_cons (de_vz 3) da_nil)))))
  (dss_cons (ds_asg (de_of (do_call tk rfl (h_law_things T) (hr.mono (by decide)) rfl (da_cons (de_vz 3) da_nil))) (dg_tup (n := 2) rfl rfl (dgs_cons (dg_name (i := 5) (np hC (by decide)) sc_law.nd rfl (by first | exact Or.inl rfl | exact Or.inr rfl)) (dgs_cons (dg_name (i := 6) (np hC (by decide)) sc_law.nd rfl (by first | exact Or.inl rfl | exact Or.inr rfl)) dgs_nil))))
  (dss_cons (ds_if (dt_w (dw_or (dt_cmpS (cs_ne rfl hr.units) (de_of (do_callS (cl_list rfl) rfl T.n_list (by decide +kernel) (.inr ⟨_, rfl⟩) (da_cons (de_a cs_moves rfl T.a_moves (de_vz 4)) da_nil))) (de_vz 3)) (dw_or1 (dt_cmpS (cs_ne rfl hr.units) (de_of (do_lc (own := [("one", 7)]) rfl sc_law.nd (nps hC (by decide)) (by decide) (di_any rfl (de_a cs_held rfl T.a_held (de_vz 4))) (blkOk_by (N := ["script", "draw", "told", "moves", "course", "things", "calls", "one", "shape", "giver", "origin", "move", "number", "words", "shapes", "turn", "rows", "can", "spot", "late", "bad", "fault", "word", "empty", "deed"]) (sc := defScope s_law) (by decide +kernel)) (fun _ _ _ _ _ C10 h9 => (dg_name (i := 7) (np (pv_eq hC h9) (by decide)) sc_law.nd rfl (by first | exact Or.inl rfl | exact Or.inr rfl))) (fun _ _ _ _ _ => dts_nil) (fun _ _ _ _ _ C12 h11 => (de_tup (da_cons (de_a cs_shape rfl T.a_shape (de_vz 7)) (da_cons (de_a cs_giver rfl T.a_giver (de_vz 7)) (da_cons (de_a cs_origin rfl T.a_origin (de_vz 7)) da_nil))))))) (de_of (do_lc (own := [("shape", 8), ("giver", 9), ("origin", 10)]) rfl sc_law.nd (nps hC (by decide)) (by decide) (di_any rfl (de_vz 5)) (blkOk_by (N := ["script", "draw", "told", "moves", "course", "things", "calls", "one", "shape", "giver", "origin", "move", "number", "words", "shapes", "turn", "rows", "can", "spot", "late", "bad", "fault", "word", "empty", "deed"]) (sc := defScope s_law) (by decide +kernel)) (fun _ _ _ _ _ C14 h13 => (dg_tup (n := 3) rfl rfl (dgs_cons (dg_name (i := 8) (np (pv_eq hC h13) (by decide)) sc_law.nd rfl (by first | exact Or.inl rfl | exact Or.inr rfl)) (dgs_cons (dg_name (i := 9) (np (pv_eq hC h13) (by decide)) sc_law.nd rfl (by first | exact Or.inl rfl | exact Or.inr rfl)) (dgs_cons (dg_name (i := 10) (np (pv_eq hC h13) (by decide)) sc_law.nd rfl (by first | exact Or.inl rfl | exact Or.inr rfl)) dgs_nil))))) (fun _ _ _ _ _ => dts_nil) (fun _ _ _ _ _ C16 h15 => (de_tup (da_cons (de_vz 8) (da_cons (de_vz 9) (da_cons (de_if (dt_cmpS cs_isnot (de_vz 10) de_non) (de_vz 10) (de_tup da_nil)) da_nil)))))))))))
  (dss_one (ds_ret (do_of de_bl)))
  dss_nil)
  (dss_cons (ds_if (dt_w (dw_or (dt_cmpS (cs_ne rfl hr.units) (de_of (do_callS (cl_list rfl) rfl T.n_list (by decide +kernel) (.inr ⟨_, rfl⟩) (da_cons (de_a cs_calls rfl T.a_calls (de_vz 4)) da_nil))) (de_vz 6)) (dw_or (dt_cmpS (cs_ne rfl hr.units) (de_of (do_meth0 tk rfl (hr.mono (by decide)) (hm_could T) (de_vz 4))) (de_of (do_call tk rfl (h_law_could T) (hr.mono (by decide)) rfl (da_cons (de_vz 2) (da_cons (de_vz 3) da_nil))))) (dw_or (dt_not (dt_val (de_of (do_call tk rfl (h_is_course T) (hr.mono (by decide)) rfl (da_cons (de_dget (hu_of hr) (de_vz 2) de_str) (da_cons (de_vz 3) da_nil)))))) (dw_or1 (dt_not (dt_val (de_of (do_call tk rfl (h_is_course T) (hr.mono (by decide)) rfl (da_cons (de_dget (hu_of hr) (de_vz 2) de_str) (da_cons (de_of (do_callS (cl_tuple rfl) rfl T.n_tuple (by decide +kernel) (.inr ⟨_, rfl⟩) (da_cons (de_of (do_lc (own := [("move", 11)]) rfl sc_law.nd (nps hC (by decide)) (by decide) (di_any rfl (de_vz 3)) (blkOk_by (N := ["script", "draw", "told", "moves", "course", "things", "calls", "one", "shape", "giver", "origin", "move", "number", "words", "shapes", "turn", "rows", "can", "spot", "late", "bad", "fault", "word", "empty", "deed"]) (sc := defScope s_law) (by decide +kernel)) (fun _ _ _ _ _ C18 h17 => (dg_name (i := 11) (np (pv_eq hC h17) (by decide)) sc_law.nd rfl (by first | exact Or.inl rfl | exact Or.inr rfl))) (fun _ _ _ _ _ => dts_nil) (fun _ _ _ _ _ C20 h19 => (de_of (do_callS (cl_list rfl) rfl T.n_list (by decide +kernel) (.inr ⟨_, rfl⟩) (da_cons (de_vz 11) da_nil)))))) da_nil))) da_nil)))))))))))
  (dss_one (ds_ret (do_of de_bl)))
  dss_nil)
  (dss_cons (ds_for po rfl (di_range1 rfl T.n_range (da_cons (de_of (do_callS (cl_len rfl) rfl T.n_len (by decide +kernel) (.inl ⟨_, rfl⟩) (da_cons (de_vz 5) da_nil))) da_nil)) (dg_name (i := 12) (np hC (by decide)) sc_law.nd rfl (by first | exact Or.inl rfl | exact Or.inr rfl))
  (dss_one (ds_if (dt_w (dw_or (dt_cmpS (cs_ne rfl hr.units) (de_of (do_call tk rfl (h_path_of T) (hr.mono (by decide)) rfl (da_cons (de_vz 4) (da_cons (de_vz 12) da_nil)))) (de_of (do_call tk rfl (h_law_path T) (hr.mono (by decide)) rfl (da_cons (de_vz 5) (da_cons (de_vz 12) da_nil))))) (dw_or1 (dt_cmpS ((cs_ne rfl hr.units).or (cs_ownNe (ms := ms_eq) rfl (hr.mono (by decide)) (hm_eq T) (eqc_all T))) (de_ixS (ix_s rfl) (de_a cs_held rfl T.a_held (de_vz 4)) (de_vz 12)) (de_of (do_make tk rfl (hc_Value T) (hr.mono (by decide)) rfl (da_cons (de_ixS (ix_s rfl) (de_ixS (ix_s rfl) (de_vz 5) (de_vz 12)) de_int) (da_cons (de_ixS (ix_s rfl) (de_ixS (ix_s rfl) (de_vz 5) (de_vz 12)) de_int) (da_cons (de_orT rfl (de_ixS (ix_s rfl) (de_ixS (ix_s rfl) (de_vz 5) (de_vz 12)) de_int) (de_one (de_tup da_nil))) da_nil)))))))))
  (dss_one (ds_ret (do_of de_bl)))
  dss_nil)))
  (dss_cons (ds_frzA 14 (ds_frzA 13 (ds_par (i := 13) (j := 14) (np hC (by decide)) (np hC (by decide)) rfl sc_law.nd rfl rfl (by decide) rfl rfl (do_lst (da_cons de_str (da_cons de_str (da_cons de_str (da_cons de_str (da_cons de_str (da_cons de_str (da_cons de_str da_nil)))))))) (fun C22 h21 => (do_bin (bs_add rfl) (de_of (do_call tk rfl (h_law_shapes T) (hr.mono (by decide)) rfl (da_cons (de_vz 2) da_nil))) (de_of (do_lst (da_cons de_int (da_cons de_str da_nil)))))) rfl)))
  (dss_cons (ds_for po rfl (di_range1 rfl T.n_range (da_cons de_int da_nil)) (dg_name (i := 15) (np hC (by decide)) sc_law.nd rfl (by first | exact Or.inl rfl | exact Or.inr rfl))
  (dss_cons (ds_frzA 16 (ds_set (i := 16) (np hC (by decide)) sc_law.nd rfl (by first | exact Or.inl rfl | exact Or.inr rfl) (do_lst (da_cons (de_tup (da_cons (de_of (do_callio2 (i := 1) tk rfl (h_law_pick T) (hr.mono (by decide)) rfl rfl (by first | exact Or.inl rfl | exact Or.inr (Or.inl rfl) | exact Or.inr (Or.inr rfl)) (da_cons (de_vz 13) da_nil))) (da_cons (de_of (do_callio2 (i := 1) tk rfl (h_law_take T) (hr.mono (by decide)) rfl rfl (by first | exact Or.inl rfl | exact Or.inr (Or.inl rfl) | exact Or.inr (Or.inr rfl)) (da_cons de_int da_nil))) (da_cons (de_of (do_callio2 (i := 1) tk rfl (h_law_pick T) (hr.mono (by decide)) rfl rfl (by first | exact Or.inl rfl | exact Or.inr (Or.inl rfl) | exact Or.inr (Or.inr rfl)) (da_cons (de_vz 14) da_nil))) da_nil)))) (da_cons (de_tup (da_cons (de_of (do_callio2 (i := 1) tk rfl (h_law_pick T) (hr.mono (by decide)) rfl rfl (by first | exact Or.inl rfl | exact Or.inr (Or.inl rfl) | exact Or.inr (Or.inr rfl)) (da_cons (de_vz 13) da_nil))) (da_cons (de_of (do_callio2 (i := 1) tk rfl (h_law_take T) (hr.mono (by decide)) rfl rfl (by first | exact Or.inl rfl | exact Or.inr (Or.inl rfl) | exact Or.inr (Or.inr rfl)) (da_cons de_int da_nil))) da_nil))) da_nil)))))
  (dss_cons (ds_frzA 11 (ds_set (i := 11) (np hC (by decide)) sc_law.nd rfl (by first | exact Or.inl rfl | exact Or.inr rfl) (do_callio2 (i := 1) tk rfl (h_law_pick T) (hr.mono (by decide)) rfl rfl (by first | exact Or.inl rfl | exact Or.inr (Or.inl rfl) | exact Or.inr (Or.inr rfl)) (da_cons (de_of (do_bin (bs_add rfl) (de_vz 16) (de_of (do_lst (da_cons (de_tup (da_cons (de_of (do_callio2 (i := 1) tk rfl (h_law_pick T) (hr.mono (by decide)) rfl rfl (by first | exact Or.inl rfl | exact Or.inr (Or.inl rfl) | exact Or.inr (Or.inr rfl)) (da_cons (de_vz 13) da_nil))) (da_cons (de_of (do_callio2 (i := 1) tk rfl (h_law_pick T) (hr.mono (by decide)) rfl rfl (by first | exact Or.inl rfl | exact Or.inr (Or.inl rfl) | exact Or.inr (Or.inr rfl)) (da_cons (de_vz 14) da_nil))) da_nil))) (da_cons de_non (da_cons (de_tup da_nil) (da_cons (de_tup (da_cons de_non (da_cons de_int (da_cons de_int da_nil)))) da_nil)))))))) da_nil))))
  (dss_cons (ds_set (i := 17) (np hC (by decide)) sc_law.nd rfl (by first | exact Or.inl rfl | exact Or.inr rfl) (do_if (dt_cmpS cs_isnot (de_vz 11) de_non) (do_of (de_cmpS (cs_in rfl (hu65 hr)) (de_vz 11) (de_of (do_call tk rfl (h_law_could T) (hr.mono (by decide)) rfl (da_cons (de_vz 2) (da_cons (de_vz 3) da_nil)))))) (do_of de_bl)))
  (dss_cons (ds_if (dt_cmpS (cs_ne rfl hr.units) (de_of (do_meth tk rfl (hr.mono (by decide)) (hm_can T) (de_vz 4) (da_cons (de_vz 11) da_nil))) (de_vz 17))
  (dss_one (ds_ret (do_of de_bl)))
  dss_nil)
  (dss_cons (ds_frzA 18 (ds_set (i := 18) (np hC (by decide)) sc_law.nd rfl (by first | exact Or.inl rfl | exact Or.inr rfl) (do_callio2 (i := 1) tk rfl (h_law_take T) (hr.mono (by decide)) rfl rfl (by first | exact Or.inl rfl | exact Or.inr (Or.inl rfl) | exact Or.inr (Or.inr rfl)) (da_cons (de_of (do_bin (bs_add rfl) (de_of (do_callS (cl_len rfl) rfl T.n_len (by decide +kernel) (.inl ⟨_, rfl⟩) (da_cons (de_vz 3) da_nil))) de_int)) da_nil))))
  (dss_cons (ds_frzA 19 (ds_set (i := 19) (np hC (by decide)) sc_law.nd rfl (by first | exact Or.inl rfl | exact Or.inr rfl) (do_bin (bs_add rfl) (de_of (do_bin (bs_add rfl) (de_of (do_slice rfl (de_vz 3) dpo_none (dpo_some (de_vz 18)))) (de_of (do_lst (da_cons (de_vz 11) da_nil))))) (de_of (do_slice rfl (de_vz 3) (dpo_some (de_vz 18)) dpo_none)))))
  (dss_cons (ds_frzA 20 (ds_set (i := 20) (np hC (by decide)) sc_law.nd rfl (by first | exact Or.inl rfl | exact Or.inr rfl) (do_call tk rfl (h_law_first_bad T) (hr.mono (by decide)) rfl (da_cons (de_vz 2) (da_cons (de_vz 19) da_nil)))))
  (dss_cons (ds_if (dt_cmpS (cs_ne rfl hr.units) (de_of (do_call tk rfl (h_is_course T) (hr.mono (by decide)) rfl (da_cons (de_dget (hu_of hr) (de_vz 2) de_str) (da_cons (de_vz 19) da_nil)))) (de_cmpS cs_is (de_vz 20) de_non))
  (dss_one (ds_ret (do_of de_bl)))
  dss_nil)
  (dss_one (ds_tryAs (i := 21) (isx := is_BadCourse) rfl rfl sc_law.nd rfl rfl rfl ⟨rfl, by decide, .inl T.k_BadCourse⟩ T.c_BadCourse tk (np hC (by decide))
  (fun W23 pn24 xe25 tk26 po27 => (dss_cons (ds_expr (de_of (do_call tk26 rfl (h_made T) (hr.mono (by decide)) rfl (da_cons (de_dget (hu_of hr) (de_vz 2) de_str) (da_cons (de_vz 19) da_nil)))))
  (dss_one (ds_if (dt_cmpS cs_isnot (de_vz 20) de_non)
  (dss_one (ds_ret (do_of de_bl)))
  dss_nil))))
  (fun a28 oe29 _ _ _ hz30 hf31 C32 x33 pv34 dx35 => (dss_one (ds_if (dt_cmpS (cs_ne rfl hr.units) (de_xf (i := 21) x33 pv34 dx35 rfl (T.xf_number) hz30 hf31) (de_vz 20))
  (dss_one (ds_ret (do_of de_bl)))
  dss_nil))))))))))))))
  (dss_cons (ds_for po rfl (di_any rfl (de_tup (da_cons (de_tup (da_cons de_int (da_cons de_non da_nil))) (da_cons (de_tup (da_cons de_int (da_cons de_str da_nil))) da_nil)))) (dg_tup (n := 2) rfl rfl (dgs_cons (dg_name (i := 12) (np hC (by decide)) sc_law.nd rfl (by first | exact Or.inl rfl | exact Or.inr rfl)) (dgs_cons (dg_name (i := 22) (np hC (by decide)) sc_law.nd rfl (by first | exact Or.inl rfl | exact Or.inr rfl)) dgs_nil)))
  (dss_one (ds_if (dt_val (de_of (do_call tk rfl (h_is_course T) (hr.mono (by decide)) rfl (da_cons (de_dget (hu_of hr) (de_vz 2) de_str) (da_cons (de_vz 22) da_nil)))))
  (dss_one (ds_ret (do_of de_bl)))
  dss_nil)))
  (dss_cons (ds_set (i := 23) (np hC (by decide)) sc_law.nd rfl (by first | exact Or.inl rfl | exact Or.inr rfl) (do_make tk rfl (hc_Course T) (hr.mono (by decide)) rfl (da_cons (de_dget (hu_of hr) (de_vz 2) de_str) da_nil)))
  (dss_cons (ds_if (dt_w (dw_or (dt_peek fun C45 h44 => (dt_cmpS (cs_ne rfl hr.units) (de_of (do_meth0 tk rfl (hr.mono (by decide)) (hm_could T) (de_vz 23))) (de_of (do_call tk rfl (h_law_could T) (hr.mono (by decide)) rfl (da_cons (de_vz 2) (da_cons (de_of (do_lst da_nil)) da_nil)))))) (dw_or (dt_cmpS (cs_ne rfl hr.units) (de_of (do_methio tk rfl (hr.mono (by decide)) (hm_make T) pok_nil (dp_v 23) (fun C43 h42 => (da_cons (de_tup (da_cons de_str (da_cons de_str da_nil))) da_nil)))) de_int) (dw_or (dt_cmpS (cs_ne rfl hr.units) (de_of (do_methio tk rfl (hr.mono (by decide)) (hm_make T) pok_nil (dp_v 23) (fun C41 h40 => (da_cons (de_tup (da_cons de_str (da_cons de_int (da_cons de_int da_nil)))) da_nil)))) de_int) (dw_or (dt_cmpS (cs_ne rfl hr.units) (de_of (do_methio tk rfl (hr.mono (by decide)) (hm_make T) pok_nil (dp_v 23) (fun C39 h38 => (da_cons (de_tup (da_cons de_str (da_cons de_int (da_cons de_str da_nil)))) da_nil)))) de_int) (dw_or1 (dt_cmpS (cs_ne rfl hr.units) (de_of (do_methio tk rfl (hr.mono (by decide)) (hm_make T) pok_nil (dp_v 23) (fun C37 h36 => (da_cons (de_tup (da_cons de_str (da_cons de_int da_nil))) da_nil)))) de_int)))))))
  (dss_one (ds_ret (do_of de_bl)))
  dss_nil)
  (dss_cons (ds_if (dt_peek fun C47 h46 => (dt_w (dw_or (dt_cmpS (cs_ne rfl hr.units) (de_of (do_lc (own := [("one", 7)]) rfl sc_law.nd (nps (pv_nil (io := []) h46) (by decide)) (by decide) (di_any rfl (de_a cs_held rfl T.a_held (de_vz 23))) (blkOk_by (N := ["script", "draw", "told", "moves", "course", "things", "calls", "one", "shape", "giver", "origin", "move", "number", "words", "shapes", "turn", "rows", "can", "spot", "late", "bad", "fault", "word", "empty", "deed"]) (sc := defScope s_law) (by decide +kernel)) (fun _ _ _ _ _ C49 h48 => (dg_name (i := 7) (np (pv_eq (pv_nil (io := []) h46) h48) (by decide)) sc_law.nd rfl (by first | exact Or.inl rfl | exact Or.inr rfl))) (fun _ _ _ _ _ => dts_nil) (fun _ _ _ _ _ C51 h50 => (de_a cs_giver rfl T.a_giver (de_vz 7))))) (de_of (do_lst (da_cons de_int (da_cons de_int (da_cons de_int da_nil)))))) (dw_or (dt_val (de_of (do_meth tk rfl (hr.mono (by decide)) (hm_can T) (de_vz 23) (da_cons (de_tup (da_cons de_str (da_cons de_int (da_cons de_int da_nil)))) da_nil)))) (dw_or1 (dt_not (dt_val (de_of (do_meth tk rfl (hr.mono (by decide)) (hm_can T) (de_vz 23) (da_cons (de_tup (da_cons de_str (da_cons de_int (da_cons de_int da_nil)))) da_nil))))))))))
  (dss_one (ds_ret (do_of de_bl)))
  dss_nil)
  (dss_cons (ds_for po rfl (di_any rfl (de_tup (da_cons (de_lam hcl (n := 0) (T.l 0) TB1 rfl hm hu rfl (LamX.lamS_by (sc := defScope s_law) (by decide +kernel))) (da_cons (de_lam hcl (n := 1) (T.l 1) TB1 rfl hm hu rfl (LamX.lamS_by (sc := defScope s_law) (by decide +kernel))) (da_cons (de_lam hcl (n := 2) (T.l 2) TB1 rfl hm hu rfl (LamX.lamS_by (sc := defScope s_law) (by decide +kernel))) da_nil))))) (dg_name (i := 24) (np hC (by decide)) sc_law.nd rfl (by first | exact Or.inl rfl | exact Or.inr rfl))
  (dss_one (ds_tryAs (i := 21) (isx := is_BadCourse) rfl rfl sc_law.nd rfl rfl rfl ⟨rfl, by decide, .inl T.k_BadCourse⟩ T.c_BadCourse tk (np hC (by decide))
  (fun W48 pn49 xe50 tk51 po52 => (dss_cons (ds_expr (de_act hcl (i := 24) (k := 7) tk51 (hr.mono (by decide)) (lamfs_cons (lamF_mk (T.l 0) rfl (LamX.lamS_by (sc := defScope s_law) (by decide +kernel)) (fun _ _ _ _ _ => rfl) (fun A outer s H E f c1 hr => (de_of (do_call (takes_of rfl rfl rfl rfl) rfl (h_made T) (hr.mono (by decide)) rfl (da_cons de_int (da_cons de_non da_nil)))))) (lamfs_cons (lamF_mk (T.l 1) rfl (LamX.lamS_by (sc := defScope s_law) (by decide +kernel)) (fun _ _ _ _ _ => rfl) (fun A outer s H E f c1 hr => (de_of (do_call (takes_of rfl rfl rfl rfl) rfl (h_path_of T) (hr.mono (by decide)) rfl (da_cons (de_vz 4) (da_cons (de_of (do_callS (cl_len rfl) rfl T.n_len (by decide +kernel) (.inl ⟨_, rfl⟩) (da_cons (de_vz 5) da_nil))) da_nil)))))) (lamfs_cons (lamF_mk (T.l 2) rfl (LamX.lamS_by (sc := defScope s_law) (by decide +kernel)) (fun _ _ _ _ _ => rfl) (fun A outer s H E f c1 hr => (de_of (do_call (takes_of rfl rfl rfl rfl) rfl (h_path_of T) (hr.mono (by decide)) rfl (da_cons (de_vz 4) (da_cons (de_neg de_int) da_nil)))))) lamfs_nil))) rfl (by first | exact Or.inl rfl | exact Or.inr (Or.inl rfl) | exact Or.inr (Or.inr rfl))))
  (dss_one (ds_ret (do_of de_bl)))))
  (fun a53 oe54 _ _ _ hz55 hf56 C57 x58 pv59 dx60 => (dss_one (ds_if (dt_cmpS cs_isnot (de_xf (i := 21) x58 pv59 dx60 rfl (T.xf_number) hz55 hf56) de_non)
  (dss_one (ds_ret (do_of de_bl)))
  dss_nil))))))
  (dss_one (ds_ret (do_of de_bl))))))))))))))))))⟩
end
end K02

end
section
namespace K02
open PySem PySem.Spec PyProof.Rows L2 DL LamX
def ct (K : PySem.W.Frag) (n : Nat) : Option Addr := match n with
  | 0 => some (He.ga K "PromiseError")
  | 1 => some (He.ga K "BadCourse")
  | 2 => some (He.ga K "Value")
  | 3 => some (He.ga K "Course")
  | _ => none
def gx (K : PySem.W.Frag) : Tx := ⟨K, ct K, lmT⟩
def dd_BadCourse___init__ : He.DefD := ⟨("BadCourse", some "__init__"), "__init__", "BadCourse.__init__", defArgs s_BadCourse___init__, defBody s_BadCourse___init__, defScope s_BadCourse___init__, [], []⟩
def dd_is_row : He.DefD := ⟨("is_row", none), "is_row", "is_row", defArgs s_is_row, defBody s_is_row, defScope s_is_row, [], []⟩
def dd_is_number : He.DefD := ⟨("is_number", none), "is_number", "is_number", defArgs s_is_number, defBody s_is_number, defScope s_is_number, [], []⟩
def dd_is_below : He.DefD := ⟨("is_below", none), "is_below", "is_below", defArgs s_is_below, defBody s_is_below, defScope s_is_below, [], []⟩
def dd_Value___init__ : He.DefD := ⟨("Value", some "__init__"), "__init__", "Value.__init__", defArgs s_Value___init__, defBody s_Value___init__, defScope s_Value___init__, [], []⟩
def dd_Value___eq__ : He.DefD := ⟨("Value", some "__eq__"), "__eq__", "Value.__eq__", defArgs s_Value___eq__, defBody s_Value___eq__, defScope s_Value___eq__, [], []⟩
def dd_Course___init__ : He.DefD := ⟨("Course", some "__init__"), "__init__", "Course.__init__", defArgs s_Course___init__, defBody s_Course___init__, defScope s_Course___init__, [], []⟩
def dd_Course_is_shape : He.DefD := ⟨("Course", some "is_shape"), "is_shape", "Course.is_shape", defArgs s_Course_is_shape, defBody s_Course_is_shape, defScope s_Course_is_shape, [], []⟩
def dd_Course_can : He.DefD := ⟨("Course", some "can"), "can", "Course.can", defArgs s_Course_can, defBody s_Course_can, defScope s_Course_can, [], []⟩
def dd_Course_make : He.DefD := ⟨("Course", some "make"), "make", "Course.make", defArgs s_Course_make, defBody s_Course_make, defScope s_Course_make, [], []⟩
def dd_Course_could : He.DefD := ⟨("Course", some "could"), "could", "Course.could", defArgs s_Course_could, defBody s_Course_could, defScope s_Course_could, [], []⟩
def dd_made : He.DefD := ⟨("made", none), "made", "made", defArgs s_made, defBody s_made, defScope s_made, [], []⟩
def dd_is_course : He.DefD := ⟨("is_course", none), "is_course", "is_course", defArgs s_is_course, defBody s_is_course, defScope s_is_course, [], []⟩
def dd_path_of : He.DefD := ⟨("path_of", none), "path_of", "path_of", defArgs s_path_of, defBody s_path_of, defScope s_path_of, [], []⟩
def dd_law_number : He.DefD := ⟨("_law_number", none), "_law_number", "_law_number", defArgs s_law_number, defBody s_law_number, defScope s_law_number, [], []⟩
def dd_law_take : He.DefD := ⟨("_law_take", none), "_law_take", "_law_take", defArgs s_law_take, defBody s_law_take, defScope s_law_take, [], []⟩
def dd_law_pick : He.DefD := ⟨("_law_pick", none), "_law_pick", "_law_pick", defArgs s_law_pick, defBody s_law_pick, defScope s_law_pick, [], []⟩
def dd_law_shapes : He.DefD := ⟨("_law_shapes", none), "_law_shapes", "_law_shapes", defArgs s_law_shapes, defBody s_law_shapes, defScope s_law_shapes, [], []⟩
def dd_law_things : He.DefD := ⟨("_law_things", none), "_law_things", "_law_things", defArgs s_law_things, defBody s_law_things, defScope s_law_things, [], []⟩
def dd_law_could : He.DefD := ⟨("_law_could", none), "_law_could", "_law_could", defArgs s_law_could, defBody s_law_could, defScope s_law_could, [], []⟩
def dd_law_course : He.DefD := ⟨("_law_course", none), "_law_course", "_law_course", defArgs s_law_course, defBody s_law_course, defScope s_law_course, [], []⟩
def dd_law_path : He.DefD := ⟨("_law_path", none), "_law_path", "_law_path", defArgs s_law_path, defBody s_law_path, defScope s_law_path, [], []⟩
def dd_law_first_bad : He.DefD := ⟨("_law_first_bad", none), "_law_first_bad", "_law_first_bad", defArgs s_law_first_bad, defBody s_law_first_bad, defScope s_law_first_bad, [], []⟩
def dd_law : He.DefD := ⟨("law", none), "law", "law", defArgs s_law, defBody s_law, defScope s_law, [], []⟩
def fn : List He.DefD := [dd_BadCourse___init__, dd_is_row, dd_is_number, dd_is_below, dd_Value___init__, dd_Value___eq__, dd_Course___init__, dd_Course_is_shape, dd_Course_can, dd_Course_make, dd_Course_could, dd_made, dd_is_course, dd_path_of, dd_law_number, dd_law_take, dd_law_pick, dd_law_shapes, dd_law_things, dd_law_could, dd_law_course, dd_law_path, dd_law_first_bad, dd_law]
def fa : List He.Fa := [.glo "PromiseError", .glo "BadCourse", .glo "Value", .glo "Course", .glo "is_row", .glo "is_number", .glo "is_below", .glo "made", .glo "is_course", .glo "path_of", .glo "_law_number", .glo "_law_take", .glo "_law_pick", .glo "_law_shapes", .glo "_law_things", .glo "_law_could", .glo "_law_course", .glo "_law_path", .glo "_law_first_bad", .glo "law", .free "bool", .free "enumerate", .free "int", .free "isinstance", .free "len", .free "list", .free "range", .free "str", .free "tuple", .int "MOST_MOVES" 402]
def chk (K : PySem.W.Frag) : Bool := (aokB K (ct K) cs_calls "calls" && (aokB K (ct K) cs_giver "giver" && (aokB K (ct K) cs_held "held" && (aokB K (ct K) cs_moves "moves" && (aokB K (ct K) cs_origin "origin" && (aokB K (ct K) cs_shape "shape" && (aokB K (ct K) cs_size "size" && (xfsB K (ct K) cx_number "number" && (isiB K (ct K) (fun t => PySem.W.kitOne K t (.ref (He.ga K "Value"))) tt_Value cc_Value && (isiB K (ct K) (fun t => PySem.W.kitOne K t (.type "bool")) tt_bool cc_bool && (isiB K (ct K) (fun t => PySem.W.kitOne K t (.type "int")) tt_int cc_int && (isiB K (ct K) (fun t => PySem.W.kitAny K t [.type "list", .type "tuple"]) tt_list_tuple cc_list_tuple && (isiB K (ct K) (fun t => PySem.W.kitOne K t (.type "str")) tt_str cc_str && (catB K (ct K) (.ref (He.ga K "BadCourse")) [(1, true)] && (eqsB K (ct K) [2] [0, 1, 2, 3] && (oexB K (He.ga K "BadCourse") && (decide (PySem.W.findIn K (.ref (He.ga K "BadCourse")) "__init__" = some (some (.ref (He.ma K (He.ga K "BadCourse") "__init__")))) && (decide (PySem.W.typeIn K (.ref (He.ma K (He.ga K "BadCourse") "__init__")) = some (.type "function")) && (noB K (He.ga K "BadCourse") "number" && (mkB K (He.ga K "Value") (He.ma K (He.ga K "Value") "__init__") && (clsB K (He.ga K "Value") && (methB K (He.ga K "Value") "__eq__" (He.ma K (He.ga K "Value") "__eq__") && (mkB K (He.ga K "Course") (He.ma K (He.ga K "Course") "__init__") && (clsB K (He.ga K "Course") && (methB K (He.ga K "Course") "is_shape" (He.ma K (He.ga K "Course") "is_shape") && (methB K (He.ga K "Course") "can" (He.ma K (He.ga K "Course") "can") && (methB K (He.ga K "Course") "make" (He.ma K (He.ga K "Course") "make") && (methB K (He.ga K "Course") "could" (He.ma K (He.ga K "Course") "could") && true))))))))))))))))))))))))))))
def tf : List He.Defn := [("law", none)]
abbrev R : PySem.W.OpenRow := PySem.W.OpenLaw.row PySem.Challenge.rw_promisewraps_k02_whole_courses
abbrev hk : PySem.W.Hook := He.hookX 7 fa fn [] tf chk
def ob (s : PySem.W.SharedT) : He.AlX := He.obsX 7 fa fn [] tf chk (HandSHeadRun.getT s)
theorem ob_eq (s : PySem.W.SharedT) : ob s = hk.obs s.abs := He.obsX_eq (HandSHeadRun.getT_eq s)
def loose0 : List Str := ["PromiseError", "BadCourse", "is_row", "is_number", "is_below", "MOST_MOVES", "Value", "Course", "made", "is_course", "path_of", "_law_number", "_law_take", "_law_pick", "_law_shapes", "_law_things", "_law_could", "_law_course", "_law_path", "_law_first_bad"]
abbrev loose : List Str := loose0
abbrev lawI : Nat := 24
set_option maxHeartbeats 0 in
theorem run (w : World) : HandSHeadRun.RunEq R (PySem.W.view R.prog [lawI]) hk ob 6000 loose w := by
  intro os
  kernel_rfl
theorem tf_of [TB] {K : PySem.W.Frag} {h : Heap} {mg : Str → Option Value} {w : World} (X : K.In h) (Gm : h.Ns mainGlobals mg) (c : He.SaysX fa fn [] tf chk w h K) : TF (gx K) mg := by
  have cd : He.SaysD fa fn K := congrArg (fun z : He.AlT => z.1) c.t
  have kk := c.more
  unfold chk at kk
  obtain ⟨k0, kk⟩ := ba2 kk
  obtain ⟨k1, kk⟩ := ba2 kk
  obtain ⟨k2, kk⟩ := ba2 kk
  obtain ⟨k3, kk⟩ := ba2 kk
  obtain ⟨k4, kk⟩ := ba2 kk
  obtain ⟨k5, kk⟩ := ba2 kk
  obtain ⟨k6, kk⟩ := ba2 kk
  obtain ⟨k7, kk⟩ := ba2 kk
  obtain ⟨k8, kk⟩ := ba2 kk
  obtain ⟨k9, kk⟩ := ba2 kk
  obtain ⟨k10, kk⟩ := ba2 kk
  obtain ⟨k11, kk⟩ := ba2 kk
  obtain ⟨k12, kk⟩ := ba2 kk
  obtain ⟨k13, kk⟩ := ba2 kk
  obtain ⟨k14, kk⟩ := ba2 kk
  obtain ⟨k15, kk⟩ := ba2 kk
  obtain ⟨k16, kk⟩ := ba2 kk
  obtain ⟨k17, kk⟩ := ba2 kk
  obtain ⟨k18, kk⟩ := ba2 kk
  obtain ⟨k19, kk⟩ := ba2 kk
  obtain ⟨k20, kk⟩ := ba2 kk
  obtain ⟨k21, kk⟩ := ba2 kk
  obtain ⟨k22, kk⟩ := ba2 kk
  obtain ⟨k23, kk⟩ := ba2 kk
  obtain ⟨k24, kk⟩ := ba2 kk
  obtain ⟨k25, kk⟩ := ba2 kk
  obtain ⟨k26, kk⟩ := ba2 kk
  obtain ⟨k27, kk⟩ := ba2 kk
  exact {
    n_bool := He.free_ok X Gm (cd.fact 20 (f := .free "bool") rfl)
    n_enumerate := He.free_ok X Gm (cd.fact 21 (f := .free "enumerate") rfl)
    n_int := He.free_ok X Gm (cd.fact 22 (f := .free "int") rfl)
    n_isinstance := He.free_ok X Gm (cd.fact 23 (f := .free "isinstance") rfl)
    n_len := He.free_ok X Gm (cd.fact 24 (f := .free "len") rfl)
    n_list := He.free_ok X Gm (cd.fact 25 (f := .free "list") rfl)
    n_range := He.free_ok X Gm (cd.fact 26 (f := .free "range") rfl)
    n_str := He.free_ok X Gm (cd.fact 27 (f := .free "str") rfl)
    n_tuple := He.free_ok X Gm (cd.fact 28 (f := .free "tuple") rfl)
    g_MOST_MOVES := He.int_ok X Gm (cd.fact 29 (f := .int "MOST_MOVES" 402) rfl)
    a_calls := aokB_ok k0
    a_giver := aokB_ok k1
    a_held := aokB_ok k2
    a_moves := aokB_ok k3
    a_origin := aokB_ok k4
    a_shape := aokB_ok k5
    a_size := aokB_ok k6
    xf_number := xfsB_ok k7
    k_BadCourse := He.glo_ok X Gm (cd.fact 1 (f := .glo "BadCourse") rfl)
    k_Value := He.glo_ok X Gm (cd.fact 2 (f := .glo "Value") rfl)
    i_Value := isiB_ok k8
    i_bool := isiB_ok k9
    i_int := isiB_ok k10
    i_list_tuple := isiB_ok k11
    i_str := isiB_ok k12
    c_BadCourse := catB_ok k13
    eqc := eqsB_ok (all := [0, 1, 2, 3]) k14 fun c C e => by
      unfold gx ct at e
      dsimp only at e
      split at e <;> first | (cases e; done) | simp
    l := fun _ => rfl
    d_BadCourse___init__ := (cd.def_ 0 (d := dd_BadCourse___init__) rfl).elim fun fd F => ⟨_, _, fd, rfl, He.glo_ok X Gm (cd.fact 1 (f := .glo "BadCourse") rfl), oexB_ok k15, of_decide_eq_true k16, of_decide_eq_true k17, F, of_decide_eq_true k18⟩
    d_is_row := (cd.def_ 1 (d := dd_is_row) rfl).elim fun fd F => ⟨_, fd, He.glo_ok X Gm (cd.fact 4 (f := .glo "is_row") rfl), F⟩
    d_is_number := (cd.def_ 2 (d := dd_is_number) rfl).elim fun fd F => ⟨_, fd, He.glo_ok X Gm (cd.fact 5 (f := .glo "is_number") rfl), F⟩
    d_is_below := (cd.def_ 3 (d := dd_is_below) rfl).elim fun fd F => ⟨_, fd, He.glo_ok X Gm (cd.fact 6 (f := .glo "is_below") rfl), F⟩
    d_Value___init__ := (cd.def_ 4 (d := dd_Value___init__) rfl).elim fun fd F => ⟨_, _, fd, rfl, He.glo_ok X Gm (cd.fact 2 (f := .glo "Value") rfl), mkB_ok k19, F⟩
    d_Value___eq__ := fun C e => by
      cases e
      exact (cd.def_ 5 (d := dd_Value___eq__) rfl).elim fun fd F => ⟨_, fd, clsB_ok k20, methB_ok k21, F⟩
    d_Course___init__ := (cd.def_ 6 (d := dd_Course___init__) rfl).elim fun fd F => ⟨_, _, fd, rfl, He.glo_ok X Gm (cd.fact 3 (f := .glo "Course") rfl), mkB_ok k22, F⟩
    d_Course_is_shape := fun C e => by
      cases e
      exact (cd.def_ 7 (d := dd_Course_is_shape) rfl).elim fun fd F => ⟨_, fd, clsB_ok k23, methB_ok k24, F⟩
    d_Course_can := fun C e => by
      cases e
      exact (cd.def_ 8 (d := dd_Course_can) rfl).elim fun fd F => ⟨_, fd, clsB_ok k23, methB_ok k25, F⟩
    d_Course_make := fun C e => by
      cases e
      exact (cd.def_ 9 (d := dd_Course_make) rfl).elim fun fd F => ⟨_, fd, clsB_ok k23, methB_ok k26, F⟩
    d_Course_could := fun C e => by
      cases e
      exact (cd.def_ 10 (d := dd_Course_could) rfl).elim fun fd F => ⟨_, fd, clsB_ok k23, methB_ok k27, F⟩
    d_made := (cd.def_ 11 (d := dd_made) rfl).elim fun fd F => ⟨_, fd, He.glo_ok X Gm (cd.fact 7 (f := .glo "made") rfl), F⟩
    d_is_course := (cd.def_ 12 (d := dd_is_course) rfl).elim fun fd F => ⟨_, fd, He.glo_ok X Gm (cd.fact 8 (f := .glo "is_course") rfl), F⟩
    d_path_of := (cd.def_ 13 (d := dd_path_of) rfl).elim fun fd F => ⟨_, fd, He.glo_ok X Gm (cd.fact 9 (f := .glo "path_of") rfl), F⟩
    d_law_number := (cd.def_ 14 (d := dd_law_number) rfl).elim fun fd F => ⟨_, fd, He.glo_ok X Gm (cd.fact 10 (f := .glo "_law_number") rfl), F⟩
    d_law_take := (cd.def_ 15 (d := dd_law_take) rfl).elim fun fd F => ⟨_, fd, He.glo_ok X Gm (cd.fact 11 (f := .glo "_law_take") rfl), F⟩
    d_law_pick := (cd.def_ 16 (d := dd_law_pick) rfl).elim fun fd F => ⟨_, fd, He.glo_ok X Gm (cd.fact 12 (f := .glo "_law_pick") rfl), F⟩
    d_law_shapes := (cd.def_ 17 (d := dd_law_shapes) rfl).elim fun fd F => ⟨_, fd, He.glo_ok X Gm (cd.fact 13 (f := .glo "_law_shapes") rfl), F⟩
    d_law_things := (cd.def_ 18 (d := dd_law_things) rfl).elim fun fd F => ⟨_, fd, He.glo_ok X Gm (cd.fact 14 (f := .glo "_law_things") rfl), F⟩
    d_law_could := (cd.def_ 19 (d := dd_law_could) rfl).elim fun fd F => ⟨_, fd, He.glo_ok X Gm (cd.fact 15 (f := .glo "_law_could") rfl), F⟩
    d_law_course := (cd.def_ 20 (d := dd_law_course) rfl).elim fun fd F => ⟨_, fd, He.glo_ok X Gm (cd.fact 16 (f := .glo "_law_course") rfl), F⟩
    d_law_path := (cd.def_ 21 (d := dd_law_path) rfl).elim fun fd F => ⟨_, fd, He.glo_ok X Gm (cd.fact 17 (f := .glo "_law_path") rfl), F⟩
    d_law_first_bad := (cd.def_ 22 (d := dd_law_first_bad) rfl).elim fun fd F => ⟨_, fd, He.glo_ok X Gm (cd.fact 18 (f := .glo "_law_first_bad") rfl), F⟩
    d_law := (cd.def_ 23 (d := dd_law) rfl).elim fun fd F => ⟨_, fd, He.glo_ok X Gm (cd.fact 19 (f := .glo "law") rfl), F⟩
  }
end K02

end
section
namespace K02
open PySem PySem.Spec PyProof.Rows L2 DL LamX
/-- what is left to be shown -/
def Law : Prop := ∀ (cl : List (Str × Addr)) (ns : List Int), ns.length ≤ 63 → (∀ z ∈ ns, Builtin.Int.intBits z ≤ 1048576) → semOf 1 24 [] (D_law.1 cl) [.fz (.scr ns)] = .ok (.fz (.bl true)) [none]
open Classical in
noncomputable def semL (ts : List T) : FO := if ∃ ns : List Int, ns.length ≤ 63 ∧ (∀ z ∈ ns, Builtin.Int.intBits z ≤ 1048576) ∧ ts = [.fz (.scr ns)] then .ok (.fz (.bl true)) [none] else .fail
theorem semL_ok {ns : List Int} (h1 : ns.length ≤ 63) (h2 : ∀ z ∈ ns, Builtin.Int.intBits z ≤ 1048576) : semL [.fz (.scr ns)] = .ok (.fz (.bl true)) [none] := if_pos ⟨ns, h1, h2, rfl⟩
theorem semL_eq (L : Law) (cl : List (Str × Addr)) (ts : List T) (h : semL ts ≠ .fail) : semOf 1 24 [] (D_law.1 cl) ts = semL ts := by
  unfold semL at h ⊢
  split at h
  · rename_i e
    rw [if_pos e]
    obtain ⟨ns, h1, h2, rfl⟩ := e
    exact L cl ns h1 h2
  · exact absurd rfl h
/-- the script's list and an empty table, nothing else -/
theorem sp_law {K : PySem.W.Frag} {P : Addr} {q : Str} {H : Hp} {a : Addr} {ns : List Int} (h1 : ns.length ≤ 63) (h2 : ∀ z ∈ ns, Builtin.Int.intBits z ≤ 1048576) (hP : K.lookup P = none) (hT : H P = some (.tbl #[])) (hS : SqL K H a (ns.map V.int)) :
    letI : TB := ⟨[(P, q)]⟩
    spD (gx K) 1 semL [.ref a] H (fun v _ => v = .bl true) fun _ _ _ => False := by
  letI : TB := ⟨[(P, q)]⟩
  have ne : P ≠ a := fun z => by
    rcases hS with (h | ⟨o, h⟩) | h
    · rw [← z, hT] at h; cases h
    · rw [← z, hT] at h; cases h
    · obtain ⟨o, vs, n, hk, _⟩ := h
      rw [← z, hP] at hk; cases hk
  refine ⟨fun b => if b = a then H b else none, [.fz (.scr ns)], [], fun _ => [], fun b o e => ?_, fun p hp => ?_, rfl, rfl, ⟨fun i t e => ?_, fun i j _ _ _ b hb => absurd hb (by simp)⟩, ?_⟩
  · dsimp only at e
    split at e
    · exact e
    · cases e
  · rw [List.mem_singleton.mp hp]
    exact ⟨if_neg ne, #[], hT, trivial, fun pos cv hc => by cases hc⟩
  · match i, e with
    | 0, e =>
      cases e
      refine ⟨.ref a, rfl, ?_, List.nodup_nil, fun b hb => absurd hb (by simp)⟩
      simp only [Own, Den]
      refine ⟨trivial, a, rfl, ?_⟩
      rcases hS with (h | ⟨o, h⟩) | h
      · exact .inl (.inl ((if_pos rfl).trans h))
      · exact .inl (.inr ⟨o, (if_pos rfl).trans h⟩)
      · exact .inr h
  · rw [semL_ok h1 h2]
    intro v F' H' st sub ⟨fp, Br, _, _, o, _, _⟩
    simp only [Own, Den] at o
    exact o.2
theorem law_at (L : Law) {P : PySem.W.OpenLaw} {K : PySem.W.Frag} {h : Heap} {mg : Str → Option Value} {w : World} {f : Addr} (X : K.In h) (Gm : h.Ns mainGlobals mg) (hfa : mg "law" = some (.ref f)) (c : He.SaysX fa fn [] tf chk w h K) : LamX.LawAtS P w K (L2.CX P.prog w) 9 63 "script" mg f h := by
  have cd : He.SaysD fa fn K := congrArg (fun z : He.AlT => z.1) c.t
  obtain ⟨fd, F⟩ := cd.def_ 23 (d := dd_law) rfl
  have e := hfa.symm.trans (He.glo_ok X Gm (cd.fact 19 (f := .glo "law") rfl))
  cases e
  have hm : (("law", none) : He.Defn) ∈ tf := List.mem_singleton.mpr rfl
  have b := FunD.bindsA (ps := ["script"]) F fun _ _ _ _ _ _ us hl => match us, hl with | [_], _ => rfl
  have hcode : ∃ cA, fd.code = .ref cA ∧ He.codeOf K ("law", none) = cA := by
    obtain ⟨oc, od, dV, kV, doc, pm, an, cdv, ct', osl, hfd, lk, hcd, _, _⟩ := F.ex
    obtain ⟨cA, hcA⟩ := He.codeIn_ref hcd
    have hc : fd.code = .ref cA := by subst hfd; exact hcA
    exact ⟨cA, hc, He.codeOf_eq lk hc⟩
  obtain ⟨cA, hcode, hcT⟩ := hcode
  have h1 : (He.cT K ("law", none)).1 = cA := hcT
  have hh : ∀ p ∈ [He.cT K ("law", none)], p = He.cT K ("law", none) := fun p hp => List.mem_singleton.mp hp
  letI tb : TB := ⟨[((He.cT K ("law", none)).2, "law.<locals>.<lambda>")]⟩
  refine ⟨fd, [He.cT K ("law", none)], spD (gx K) 1 semL, fun p hp => ?_, fun p hp => ?_, fun p hp => ?_, fun s v => b s [v] rfl, fun H a ns hl hbits hT hS => ?_, fun base KB GB hTB => ?_⟩
  · rw [hh p hp]; exact c.empty _ hm
  · rw [hh p hp]; exact c.out _ hm
  · rw [hh p hp]; exact PySem.W.codeHd_of_K X (c.hd _ hm)
  · exact sp_law hl hbits (c.out _ hm) (hT _ (List.mem_singleton.mpr rfl)) hS
  · have T : TF (gx K) mg := tf_of X Gm c
    have TB1 := hTB _ (List.mem_singleton.mpr rfl)
    rw [h1] at TB1
    exact fnDL (G := gx K) (m := 24) (g := D_law.1) F hcode sc_law rfl rfl (semL_eq L) fun A outer s H E C hr hC =>
      D_law.2 T _ cA (He.cT K ("law", none)).2 A outer s H E C _ rfl TB1 (List.mem_singleton.mpr rfl) (fun p hp _ => by rw [List.mem_singleton.mp hp]; rfl) hr hC
theorem cx_out {P : Program} {w : World} {H : Hp} {s : Shared} {e : Value} {s' : Shared} (h : L2.CX P w [] H s (fun _ _ _ => False) e s') : False := by
  obtain ⟨_, _, _, _, _, _, _, _, _, _, _, _, z⟩ := h
  exact z.elim
end K02
open PySem PySem.W PySem.Calls PyProof.Rows
theorem PySem.Challenge.end_promisewraps_k02_whole_courses (L : K02.Law) : PySem.Challenge.rw_promisewraps_k02_whole_courses.Holds := by
  w_on; o_law
  refine HandSHeadRun.head_any (r := OpenLaw.row PySem.Challenge.rw_promisewraps_k02_whole_courses) (q := view (OpenLaw.row PySem.Challenge.rw_promisewraps_k02_whole_courses).prog [24]) (H := K02.hk) (ob := K02.ob) (M := 6000) (loose := K02.loose) (d := HandSHeadRun.topDef (OpenLaw.row PySem.Challenge.rw_promisewraps_k02_whole_courses).prog 24) (kwd := []) K02.ob_eq
    (by kernel_rfl) (fun s => by kernel_rfl) K02.run (by kernel_rfl) (by kernel_rfl) (by kernel_rfl) (by rfl) (by first | assumption | decide +kernel) (by decide +kernel) ⟨rfl, rfl, rfl, rfl, rfl, by decide +kernel⟩ ?hw ?hc
  case hw => w_witness2
  case hc =>
    refine LamX.walk_ofTsE (l := PySem.Challenge.rw_promisewraps_k02_whole_courses) (n := 63) (k := 9) (x := "script") (CX := L2.CX PySem.Challenge.rw_promisewraps_k02_whole_courses.prog) rfl (by decide) (by kernel_rfl) ⟨rfl, by decide, by decide⟩ ?F (fun _ _ _ _ _ z => K02.cx_out z)
    intro w mg fa h Y G hmg0
    obtain ⟨K, KX, c⟩ := Y
    have hmg : mg ("law" : PySem.Str) = some (.ref fa) := by
      have e : (HandSHeadRun.topDef (OpenLaw.row PySem.Challenge.rw_promisewraps_k02_whole_courses).prog 24).name = ("law" : PySem.Str) := by kernel_rfl
      rw [← e]
      exact hmg0
    exact ⟨K, KX, K02.law_at L KX G hmg c⟩

end
section
namespace K02
open PySem PySem.Spec PyProof.Rows L2 DL LamX
/-! ### what is drawn -/
def GotI (n : Nat) (o : FO) : Prop := ∃ r : Int, o = .ok (.fz (.int r)) (List.replicate n none)
theorem e_number (ns : List Int) (k : Nat) (hL : ns.length ≤ 63) : GotI 2 (semOf 2 5 [] D_law_number.1 [.fz (.scr ns), .fz (.int (k : Int))]) := by
  rw [show semOf 2 5 [] D_law_number.1 [.fz (.scr ns), .fz (.int (k : Int))] = _ from semOf_ok rfl]
  simp only [D_law_number]
  have fm0 : ∀ a b : Int, 0 < b → 0 ≤ a.fmod b := fun a b h => Int.fmod_nonneg_of_pos a h
  have fm1 : ∀ a b : Int, 0 < b → a.fmod b < b := fun a b h => Int.fmod_lt_of_pos a h
  have h1 : ∃ c t : Int, 0 ≤ t ∧ (if ns = [] then c = 12345 ∧ t = 0 else c = ns.getD (((k : Int).fmod ns.length)).toNat 0 ∧ t = (k : Int).fdiv ns.length) := by
    by_cases h : ns = []
    · exact ⟨12345, 0, by omega, by simp [h]⟩
    · exact ⟨ns.getD (((k : Int).fmod ns.length)).toNat 0, (k : Int).fdiv ns.length, Int.fdiv_nonneg (Int.natCast_nonneg k) (Int.natCast_nonneg _), by rw [if_neg h]; exact ⟨rfl, rfl⟩⟩
  obtain ⟨c, t, ht, hct⟩ := h1
  refine seq_step (P := fun o => GotI 2 (fin [] 2 o)) [eD (.scr ns), eI k, eI c, eI t, none, none, none] ?_ ?_
  · by_cases h : ns = []
    · rw [if_pos h] at hct
      obtain ⟨rfl, rfl⟩ := hct
      subst h
      simp [asgG, gtTup, gtCons, gtNil]
    · rw [if_neg h] at hct
      have hl : 0 < ns.length := List.length_pos_iff.mpr h
      have hz : (ns.length : Int) ≠ 0 := by omega
      obtain ⟨rfl, rfl⟩ := hct
      have hd : ¬ ((ns.length : Int) = 0) ∧ ns.length < 1073741824 := ⟨hz, by omega⟩
      simp [asgG, gtTup, gtCons, gtNil, h, hz, hd, ixf_scrI ns _ (fm0 k ns.length (by omega)) (fm1 k ns.length (by omega))]
  obtain ⟨z, hz⟩ : ∃ z : Int, z = if t < 60 then c - 1000000000000000000 else 0 := ⟨_, rfl⟩
  refine seq_step (P := fun o => GotI 2 (fin [] 2 o)) [eD (.scr ns), eI k, eI c, eI t, eI z, none, none] ?_ ?_
  · subst hz
    by_cases h : t < 60 <;> simp [h, pow18]
  obtain ⟨m, hm⟩ := Int.eq_ofNat_of_zero_le (fm0 t 60 (by decide))
  have hm2 := fm1 t 60 (by decide)
  have e3 : rng1 [.int (t.fmod 60)] = some (rngD 0 m) := by rw [hm]; exact rng1_nat m (by omega)
  simp only [rdz_s, rdz_z, upO_ok, b_ok, m_ok, l_some, intf_i, er_fz, modf_i t 60 (by decide), e3]
  refine seq_for (P := fun o => GotI 2 (fin [] 2 o)) (fun e => ∃ z u, e = [eD (.scr ns), eI k, eI c, eI t, eI z, u, none]) ?_ ⟨z, none, rfl⟩ ?_
  · rintro d - e ⟨z1, u, rfl⟩
    exact ⟨_, [eD (.scr ns), eI k, eI c, eI t, eI (z1.fdiv 1009), eD d, none], rfl, by simp, ⟨_, _, rfl⟩⟩
  rintro e ⟨z, u, rfl⟩
  by_cases h : 0 < z
  · simp [h, GotI]
  refine seq_step (P := fun o => GotI 2 (fin [] 2 o)) _ (by simp [h]; rfl) ?_
  have step : ∀ (a b : Int), 0 < b → ∃ r : Int, r = a.fmod b ∧ 0 ≤ r ∧ r < b := fun a b h => ⟨_, rfl, fm0 a b h, fm1 a b h⟩
  obtain ⟨r1, q1, q2, q3⟩ := step ((c + 977 * k) * 48271 + 31 * ns.length) 2147483647 (by decide)
  refine seq_step (P := fun o => GotI 2 (fin [] 2 o)) [eD (.scr ns), eI k, eI c, eI t, eI z, u, eI r1] (by subst q1; simp) ?_
  obtain ⟨r2, p1, p2, p3⟩ := step (r1 * r1 + 40503 * k) 2147483629 (by decide)
  have hr1 : -18446744073709551616 < r1 ∧ r1 < 18446744073709551616 := by omega
  refine seq_step (P := fun o => GotI 2 (fin [] 2 o)) [eD (.scr ns), eI k, eI c, eI t, eI z, u, eI r2] (by subst p1; simp [hr1]) ?_
  simp [GotI]
theorem e_take (ns : List Int) (k : Nat) (many : Int) (hL : ns.length ≤ 63) (hm : 0 < many) : ∃ r : Nat, (r : Int) < many ∧ semOf 2 0 [0] D_law_take.1 [.lst [.scr ns, .int (k : Int)], .fz (.int many)] = .ok (.fz (.int (r : Int))) [some (.lst [.scr ns, .int ((k + 1 : Nat) : Int)]), none] := by
  obtain ⟨r, hr⟩ := e_number ns (k + 1) hL
  rw [show semOf 2 0 [0] D_law_take.1 [.lst [.scr ns, .int (k : Int)], .fz (.int many)] = _ from semOf_ok rfl]
  simp only [D_law_take]
  obtain ⟨n, hn⟩ := Int.eq_ofNat_of_zero_le (Int.fmod_nonneg_of_pos r hm)
  refine ⟨n, by have := Int.fmod_lt_of_pos r hm; omega, ?_⟩
  have hz : many ≠ 0 := by omega
  have e1 : augI 0 [] (fun env => Out.ok (D.int 1) env) (fun env => Out.ok (D.int 1) env) (startE 0 [.lst [.scr ns, .int (k : Int)], .fz (.int many)]) = .ok .nx [eT (.lst [.scr ns, .int ((k + 1 : Nat) : Int)]), eI many] := by
    rfl
  rw [e1, s_nx]
  have e2 : ∀ g : DL.Env → Out D, pk g [eT (.lst [.scr ns, .int ((k + 1 : Nat) : Int)]), eI many] = (match g [eD (.lst [.scr ns, .int ((k + 1 : Nat) : Int)]), eI many] with
    | .ok d _ => if atom d = true then .ok d [eT (.lst [.scr ns, .int ((k + 1 : Nat) : Int)]), eI many] else .fail
    | _ => .fail) := fun g => rfl
  rw [e2]
  simp [hr, -Int.natCast_add, atom, hz, hn]
  rfl
theorem e_pick (ns : List Int) (k : Nat) (items : List D) (hL : ns.length ≤ 63) (hm : 0 < items.length) : ∃ (r : Nat) (h : r < items.length), semOf 2 0 [0] D_law_pick.1 [.lst [.scr ns, .int (k : Int)], .fz (.lst items)] = .ok (.fz items[r]) [some (.lst [.scr ns, .int ((k + 1 : Nat) : Int)]), none] := by
  obtain ⟨r, h1, h2⟩ := e_take ns k items.length hL (by omega)
  have h3 : r < items.length := by omega
  refine ⟨r, h3, ?_⟩
  rw [show semOf 2 0 [0] D_law_pick.1 [.lst [.scr ns, .int (k : Int)], .fz (.lst items)] = _ from semOf_ok rfl]
  have e2 : ∀ gs : DL.Env → Out (List D), gs [eT (.lst [.scr ns, .int (k : Int)]), eD (.lst items)] = .ok [.int items.length] [eT (.lst [.scr ns, .int (k : Int)]), eD (.lst items)] → callIO2 2 (semOf 2 0 [0] D_law_take.val) 0 gs [eT (.lst [.scr ns, .int (k : Int)]), eD (.lst items)] = .ok (.fz (.int (r : Int))) [eT (.lst [.scr ns, .int ((k + 1 : Nat) : Int)]), eD (.lst items)] := fun gs hg => by
    unfold callIO2 afterIO
    rw [hg]
    simp [rdo, ownP, getP, h2, putG, setE, setP]
  simp only [D_law_pick, startE, List.map_cons, List.map_nil, List.replicate_zero, List.append_nil, List.nil_append, List.cons_append, rdz_s, rdz_z, upO_ok, b_ok]
  rw [e2 _ (by simp)]
  simp [ixf_lst items r h3, -Int.natCast_add]
  rfl
end K02

end
section
namespace K02
open PySem PySem.Spec PyProof.Rows L2 DL LamX
/-! ### words -/
abbrev qs (x y : Str) : Option D := orF eqf eqL (.str x) (.str y)
@[simp] theorem w_give_give : orF eqf eqL (.str (Str.ofString "give")) (.str (Str.ofString "give")) = some (.bl true) := by kernel_rfl
@[simp] theorem w_give_call : orF eqf eqL (.str (Str.ofString "give")) (.str (Str.ofString "call")) = some (.bl false) := by kernel_rfl
@[simp] theorem w_give_answer : orF eqf eqL (.str (Str.ofString "give")) (.str (Str.ofString "answer")) = some (.bl false) := by kernel_rfl
@[simp] theorem w_give_left : orF eqf eqL (.str (Str.ofString "give")) (.str (Str.ofString "left")) = some (.bl false) := by kernel_rfl
@[simp] theorem w_give_right : orF eqf eqL (.str (Str.ofString "give")) (.str (Str.ofString "right")) = some (.bl false) := by kernel_rfl
@[simp] theorem w_give_use : orF eqf eqL (.str (Str.ofString "give")) (.str (Str.ofString "use")) = some (.bl false) := by kernel_rfl
@[simp] theorem w_give_zz : orF eqf eqL (.str (Str.ofString "give")) (.str (Str.ofString "zz")) = some (.bl false) := by kernel_rfl
@[simp] theorem w_give_pair : orF eqf eqL (.str (Str.ofString "give")) (.str (Str.ofString "pair")) = some (.bl false) := by kernel_rfl
@[simp] theorem w_call_give : orF eqf eqL (.str (Str.ofString "call")) (.str (Str.ofString "give")) = some (.bl false) := by kernel_rfl
@[simp] theorem w_call_call : orF eqf eqL (.str (Str.ofString "call")) (.str (Str.ofString "call")) = some (.bl true) := by kernel_rfl
@[simp] theorem w_call_answer : orF eqf eqL (.str (Str.ofString "call")) (.str (Str.ofString "answer")) = some (.bl false) := by kernel_rfl
@[simp] theorem w_call_left : orF eqf eqL (.str (Str.ofString "call")) (.str (Str.ofString "left")) = some (.bl false) := by kernel_rfl
@[simp] theorem w_call_right : orF eqf eqL (.str (Str.ofString "call")) (.str (Str.ofString "right")) = some (.bl false) := by kernel_rfl
@[simp] theorem w_call_use : orF eqf eqL (.str (Str.ofString "call")) (.str (Str.ofString "use")) = some (.bl false) := by kernel_rfl
@[simp] theorem w_call_zz : orF eqf eqL (.str (Str.ofString "call")) (.str (Str.ofString "zz")) = some (.bl false) := by kernel_rfl
@[simp] theorem w_call_pair : orF eqf eqL (.str (Str.ofString "call")) (.str (Str.ofString "pair")) = some (.bl false) := by kernel_rfl
@[simp] theorem w_answer_give : orF eqf eqL (.str (Str.ofString "answer")) (.str (Str.ofString "give")) = some (.bl false) := by kernel_rfl
@[simp] theorem w_answer_call : orF eqf eqL (.str (Str.ofString "answer")) (.str (Str.ofString "call")) = some (.bl false) := by kernel_rfl
@[simp] theorem w_answer_answer : orF eqf eqL (.str (Str.ofString "answer")) (.str (Str.ofString "answer")) = some (.bl true) := by kernel_rfl
@[simp] theorem w_answer_left : orF eqf eqL (.str (Str.ofString "answer")) (.str (Str.ofString "left")) = some (.bl false) := by kernel_rfl
@[simp] theorem w_answer_right : orF eqf eqL (.str (Str.ofString "answer")) (.str (Str.ofString "right")) = some (.bl false) := by kernel_rfl
@[simp] theorem w_answer_use : orF eqf eqL (.str (Str.ofString "answer")) (.str (Str.ofString "use")) = some (.bl false) := by kernel_rfl
@[simp] theorem w_answer_zz : orF eqf eqL (.str (Str.ofString "answer")) (.str (Str.ofString "zz")) = some (.bl false) := by kernel_rfl
@[simp] theorem w_answer_pair : orF eqf eqL (.str (Str.ofString "answer")) (.str (Str.ofString "pair")) = some (.bl false) := by kernel_rfl
@[simp] theorem w_left_give : orF eqf eqL (.str (Str.ofString "left")) (.str (Str.ofString "give")) = some (.bl false) := by kernel_rfl
@[simp] theorem w_left_call : orF eqf eqL (.str (Str.ofString "left")) (.str (Str.ofString "call")) = some (.bl false) := by kernel_rfl
@[simp] theorem w_left_answer : orF eqf eqL (.str (Str.ofString "left")) (.str (Str.ofString "answer")) = some (.bl false) := by kernel_rfl
@[simp] theorem w_left_left : orF eqf eqL (.str (Str.ofString "left")) (.str (Str.ofString "left")) = some (.bl true) := by kernel_rfl
@[simp] theorem w_left_right : orF eqf eqL (.str (Str.ofString "left")) (.str (Str.ofString "right")) = some (.bl false) := by kernel_rfl
@[simp] theorem w_left_use : orF eqf eqL (.str (Str.ofString "left")) (.str (Str.ofString "use")) = some (.bl false) := by kernel_rfl
@[simp] theorem w_left_zz : orF eqf eqL (.str (Str.ofString "left")) (.str (Str.ofString "zz")) = some (.bl false) := by kernel_rfl
@[simp] theorem w_left_pair : orF eqf eqL (.str (Str.ofString "left")) (.str (Str.ofString "pair")) = some (.bl false) := by kernel_rfl
@[simp] theorem w_right_give : orF eqf eqL (.str (Str.ofString "right")) (.str (Str.ofString "give")) = some (.bl false) := by kernel_rfl
@[simp] theorem w_right_call : orF eqf eqL (.str (Str.ofString "right")) (.str (Str.ofString "call")) = some (.bl false) := by kernel_rfl
@[simp] theorem w_right_answer : orF eqf eqL (.str (Str.ofString "right")) (.str (Str.ofString "answer")) = some (.bl false) := by kernel_rfl
@[simp] theorem w_right_left : orF eqf eqL (.str (Str.ofString "right")) (.str (Str.ofString "left")) = some (.bl false) := by kernel_rfl
@[simp] theorem w_right_right : orF eqf eqL (.str (Str.ofString "right")) (.str (Str.ofString "right")) = some (.bl true) := by kernel_rfl
@[simp] theorem w_right_use : orF eqf eqL (.str (Str.ofString "right")) (.str (Str.ofString "use")) = some (.bl false) := by kernel_rfl
@[simp] theorem w_right_zz : orF eqf eqL (.str (Str.ofString "right")) (.str (Str.ofString "zz")) = some (.bl false) := by kernel_rfl
@[simp] theorem w_right_pair : orF eqf eqL (.str (Str.ofString "right")) (.str (Str.ofString "pair")) = some (.bl false) := by kernel_rfl
@[simp] theorem w_use_give : orF eqf eqL (.str (Str.ofString "use")) (.str (Str.ofString "give")) = some (.bl false) := by kernel_rfl
@[simp] theorem w_use_call : orF eqf eqL (.str (Str.ofString "use")) (.str (Str.ofString "call")) = some (.bl false) := by kernel_rfl
@[simp] theorem w_use_answer : orF eqf eqL (.str (Str.ofString "use")) (.str (Str.ofString "answer")) = some (.bl false) := by kernel_rfl
@[simp] theorem w_use_left : orF eqf eqL (.str (Str.ofString "use")) (.str (Str.ofString "left")) = some (.bl false) := by kernel_rfl
@[simp] theorem w_use_right : orF eqf eqL (.str (Str.ofString "use")) (.str (Str.ofString "right")) = some (.bl false) := by kernel_rfl
@[simp] theorem w_use_use : orF eqf eqL (.str (Str.ofString "use")) (.str (Str.ofString "use")) = some (.bl true) := by kernel_rfl
@[simp] theorem w_use_zz : orF eqf eqL (.str (Str.ofString "use")) (.str (Str.ofString "zz")) = some (.bl false) := by kernel_rfl
@[simp] theorem w_use_pair : orF eqf eqL (.str (Str.ofString "use")) (.str (Str.ofString "pair")) = some (.bl false) := by kernel_rfl
@[simp] theorem w_zz_give : orF eqf eqL (.str (Str.ofString "zz")) (.str (Str.ofString "give")) = some (.bl false) := by kernel_rfl
@[simp] theorem w_zz_call : orF eqf eqL (.str (Str.ofString "zz")) (.str (Str.ofString "call")) = some (.bl false) := by kernel_rfl
@[simp] theorem w_zz_answer : orF eqf eqL (.str (Str.ofString "zz")) (.str (Str.ofString "answer")) = some (.bl false) := by kernel_rfl
@[simp] theorem w_zz_left : orF eqf eqL (.str (Str.ofString "zz")) (.str (Str.ofString "left")) = some (.bl false) := by kernel_rfl
@[simp] theorem w_zz_right : orF eqf eqL (.str (Str.ofString "zz")) (.str (Str.ofString "right")) = some (.bl false) := by kernel_rfl
@[simp] theorem w_zz_use : orF eqf eqL (.str (Str.ofString "zz")) (.str (Str.ofString "use")) = some (.bl false) := by kernel_rfl
@[simp] theorem w_zz_zz : orF eqf eqL (.str (Str.ofString "zz")) (.str (Str.ofString "zz")) = some (.bl true) := by kernel_rfl
@[simp] theorem w_zz_pair : orF eqf eqL (.str (Str.ofString "zz")) (.str (Str.ofString "pair")) = some (.bl false) := by kernel_rfl
@[simp] theorem w_pair_give : orF eqf eqL (.str (Str.ofString "pair")) (.str (Str.ofString "give")) = some (.bl false) := by kernel_rfl
@[simp] theorem w_pair_call : orF eqf eqL (.str (Str.ofString "pair")) (.str (Str.ofString "call")) = some (.bl false) := by kernel_rfl
@[simp] theorem w_pair_answer : orF eqf eqL (.str (Str.ofString "pair")) (.str (Str.ofString "answer")) = some (.bl false) := by kernel_rfl
@[simp] theorem w_pair_left : orF eqf eqL (.str (Str.ofString "pair")) (.str (Str.ofString "left")) = some (.bl false) := by kernel_rfl
@[simp] theorem w_pair_right : orF eqf eqL (.str (Str.ofString "pair")) (.str (Str.ofString "right")) = some (.bl false) := by kernel_rfl
@[simp] theorem w_pair_use : orF eqf eqL (.str (Str.ofString "pair")) (.str (Str.ofString "use")) = some (.bl false) := by kernel_rfl
@[simp] theorem w_pair_zz : orF eqf eqL (.str (Str.ofString "pair")) (.str (Str.ofString "zz")) = some (.bl false) := by kernel_rfl
@[simp] theorem w_pair_pair : orF eqf eqL (.str (Str.ofString "pair")) (.str (Str.ofString "pair")) = some (.bl true) := by kernel_rfl
@[simp] theorem n_give_use : nef (.str (Str.ofString "give")) (.str (Str.ofString "use")) = some (.bl true) := by kernel_rfl
@[simp] theorem n_call_use : nef (.str (Str.ofString "call")) (.str (Str.ofString "use")) = some (.bl true) := by kernel_rfl
@[simp] theorem n_answer_use : nef (.str (Str.ofString "answer")) (.str (Str.ofString "use")) = some (.bl true) := by kernel_rfl
@[simp] theorem n_left_use : nef (.str (Str.ofString "left")) (.str (Str.ofString "use")) = some (.bl true) := by kernel_rfl
@[simp] theorem n_right_use : nef (.str (Str.ofString "right")) (.str (Str.ofString "use")) = some (.bl true) := by kernel_rfl
@[simp] theorem n_use_use : nef (.str (Str.ofString "use")) (.str (Str.ofString "use")) = some (.bl false) := by kernel_rfl
@[simp] theorem n_zz_use : nef (.str (Str.ofString "zz")) (.str (Str.ofString "use")) = some (.bl true) := by kernel_rfl
@[simp] theorem n_pair_use : nef (.str (Str.ofString "pair")) (.str (Str.ofString "use")) = some (.bl true) := by kernel_rfl
/-! ### moves, things -/
/-- what stands in a move -/
inductive At where
  | n (k : Nat) | s (x : Str)
deriving DecidableEq
def At.d : At → D
  | .n k => .int k
  | .s x => .str x
structure Mv where
  w : Str
  xs : List At
deriving DecidableEq
def Mv.d (m : Mv) : D := .tup (.str m.w :: m.xs.map At.d)
structure Th where
  sh : At
  g : Nat
  o : Option (Nat × Nat)
deriving DecidableEq
def orD : Option (Nat × Nat) → D
  | none => .non
  | some (a, b) => .tup [.int (a : Int), .int (b : Int)]
def Th.d (t : Th) : D := .tup [t.sh.d, .int (t.g : Int), orD t.o]
structure St where
  th : List Th
  ca : List (Nat × Bool)
def caD (p : Nat × Bool) : D := .tup [.int (p.1 : Int), .bl p.2]
/-- a move that can be made, and what comes of it; ok: the shapes -/
inductive Can (ok : At → Prop) : St → Mv → St → Prop
  | give {a : At} : ok a → Can ok ⟨[], []⟩ ⟨"give", [a]⟩ ⟨[⟨a, 0, none⟩], []⟩
  | call {s : St} {t : Nat} {a : At} (h : t < s.th.length) : ok a → s.th[t].sh = .s "call" → Can ok s ⟨"call", [.n t, a]⟩ ⟨s.th ++ [⟨a, 1 - s.th[t].g, some (t, 1)⟩], s.ca ++ [(t, false)]⟩
  | left {s : St} {t : Nat} {a : At} (h : t < s.th.length) : ok a → s.th[t].sh = .s "pair" → Can ok s ⟨"left", [.n t, a]⟩ ⟨s.th ++ [⟨a, s.th[t].g, some (t, 1)⟩], s.ca⟩
  | right {s : St} {t : Nat} {a : At} (h : t < s.th.length) : ok a → s.th[t].sh = .s "pair" → Can ok s ⟨"right", [.n t, a]⟩ ⟨s.th ++ [⟨a, s.th[t].g, some (t, 2)⟩], s.ca⟩
  | answer {s : St} {c : Nat} {a : At} (h : c < s.ca.length) (h2 : s.ca[c].1 < s.th.length) : ok a → s.ca[c].2 = false → Can ok s ⟨"answer", [.n c, a]⟩ ⟨s.th ++ [⟨a, s.th[s.ca[c].1].g, some (s.ca[c].1, 2)⟩], s.ca.set c (s.ca[c].1, true)⟩
  | use {s : St} {t : Nat} (h : t < s.th.length) : Can ok s ⟨"use", [.n t]⟩ s
/-- giver 0 or 1, few things and calls, calls of things -/
structure Fine (s : St) (n : Nat) : Prop where
  g : ∀ t ∈ s.th, t.g ≤ 1
  ca : ∀ p ∈ s.ca, p.1 < s.th.length
  n1 : s.th.length ≤ n
  n2 : s.ca.length ≤ n
theorem Can.fine {ok : At → Prop} {s s' : St} {m : Mv} {n : Nat} (c : Can ok s m s') (f : Fine s n) : Fine s' (n + 1) := by
  have gg : ∀ (t : Nat) (h : t < s.th.length), s.th[t].g ≤ 1 := fun t h => f.g _ (List.getElem_mem h)
  have f1 := f.g
  have f2 := f.ca
  have f3 := f.n1
  have f4 := f.n2
  cases c with
  | give h => exact ⟨by simp, by simp, by simp, by simp⟩
  | call h ha hs =>
    refine ⟨?_, ?_, by simp; omega, by simp; omega⟩
    · intro t ht
      rcases List.mem_append.mp ht with q | q
      · exact f1 t q
      · rw [List.mem_singleton.mp q]; simp
    · intro p hp
      rcases List.mem_append.mp hp with q | q
      · have := f2 p q; simp; omega
      · rw [List.mem_singleton.mp q]; simp; omega
  | left h ha hs =>
    refine ⟨?_, ?_, by simp; omega, by simp; omega⟩
    · intro t ht
      rcases List.mem_append.mp ht with q | q
      · exact f1 t q
      · rw [List.mem_singleton.mp q]; exact gg _ h
    · intro p hp
      have := f2 p hp; simp; omega
  | right h ha hs =>
    refine ⟨?_, ?_, by simp; omega, by simp; omega⟩
    · intro t ht
      rcases List.mem_append.mp ht with q | q
      · exact f1 t q
      · rw [List.mem_singleton.mp q]; exact gg _ h
    · intro p hp
      have := f2 p hp; simp; omega
  | answer h h2 ha hs =>
    refine ⟨?_, ?_, by simp; omega, by simp; omega⟩
    · intro t ht
      rcases List.mem_append.mp ht with q | q
      · exact f1 t q
      · rw [List.mem_singleton.mp q]; exact gg _ h2
    · intro p hp
      rcases List.mem_or_eq_of_mem_set hp with q | q
      · have := f2 p q; simp; omega
      · rw [q]; simp; omega
  | use h => exact ⟨f1, f2, by omega, by omega⟩
/-- n moves were made before -/
def Stp (ok : At → Prop) (p : Nat × St) (m : Mv) (q : Nat × St) : Prop := p.1 < 1000 ∧ Fine p.2 p.1 ∧ Can ok p.2 m q.2 ∧ q.1 = p.1 + 1
abbrev Run (ok : At → Prop) := RunR (Stp ok)
def thL (s : St) : List D := s.th.map Th.d
def caL (s : St) : List D := s.ca.map caD
end K02

end
section
namespace K02
open PySem PySem.Spec PyProof.Rows L2 DL LamX
/-- a list of one's own, or frozen -/
def IsL (x : Option Ent) (ds : List D) : Prop := x = eT (.lst ds) ∨ x = eD (.lst ds)
theorem ix_th {s : St} {t : Nat} (h : t < s.th.length) : ixf (.lst (thL s)) (.int (t : Int)) = some s.th[t].d := by
  rw [ixf_lst _ t (by simpa [thL] using h)]
  simp [thL]
theorem ix_ca {s : St} {t : Nat} (h : t < s.ca.length) : ixf (.lst (caL s)) (.int (t : Int)) = some (caD s.ca[t]) := by
  rw [ixf_lst _ t (by simpa [caL] using h)]
  simp [caL]
theorem thL_snoc (s : St) (x : Th) (c : List (Nat × Bool)) : thL ⟨s.th ++ [x], c⟩ = thL s ++ [x.d] := by simp [thL]
theorem caL_snoc (s : St) (xs : List Th) (p : Nat × Bool) : caL ⟨xs, s.ca ++ [p]⟩ = caL s ++ [caD p] := by simp [caL]
theorem caL_same (s : St) (xs : List Th) : caL ⟨xs, s.ca⟩ = caL s := rfl
theorem caL_set (s : St) (xs : List Th) (c : Nat) (p : Nat × Bool) (h : c < s.ca.length) : caL ⟨xs, s.ca.set c p⟩ = (caL s).take c ++ caD p :: (caL s).drop (c + 1) := by
  simp only [caL]
  rw [List.set_eq_take_append_cons_drop, if_pos h]
  simp
theorem atn (t : Nat) : At.d (.n t) = .int (t : Int) := rfl
def thingsI (mv : D) (p : Nat × St) (e : DL.Env) : Prop := ∃ x2 u3 u4 u5, e = [eD mv, eT (.lst (thL p.2)), x2, u3, u4, u5] ∧ IsL x2 (caL p.2)
theorem e_things {ok : At → Prop} {ms : List Mv} {p : Nat × St} (run : Run ok (0, ⟨[], []⟩) ms p) : semOf 1 5 [] D_law_things.1 [.fz (.lst (ms.map Mv.d))] = .ok (.fz (.tup [.lst (thL p.2), .lst (caL p.2)])) [none] := by
  rw [show semOf 1 5 [] D_law_things.1 [.fz (.lst (ms.map Mv.d))] = _ from semOf_ok rfl]
  simp only [D_law_things]
  refine seq_step (P := fun o => fin [] 1 o = _) [eD (.lst (ms.map Mv.d)), eT (.lst []), eT (.lst []), none, none, none] (by simp) ?_
  simp only [rdz_z, b_ok, iterD_lst, l_some]
  refine seq_forR (P := fun o => fin [] 1 o = _) (thingsI (.lst (ms.map Mv.d))) run ?_ ⟨_, _, _, _, rfl, .inl rfl⟩ ?_
  · rintro ⟨n, s⟩ m ⟨n', s'⟩ e ⟨hn, hf, hc, rfl⟩ ⟨x2, u3, u4, u5, rfl, hx⟩
    simp only at hn hf hc hx
    have b1 := hf.n1
    have b2 := hf.n2
    have lt : (thL s).length < sizeLine := by simp only [thL, List.length_map]; exact Nat.lt_of_le_of_lt b1 (Nat.lt_trans hn (by decide))
    have adf : ∀ x, addf (.lst (caL s)) (.lst [x]) = some (.lst (caL s ++ [x])) := fun x => addf_lst _ _ (by simp [caL]; omega)
    have adf0 : addf (.lst (caL s)) (.lst []) = some (.lst (caL s)) := by rw [addf_lst _ _ (by simp [caL]; omega), List.append_nil]
    refine ⟨[eD (.lst (ms.map Mv.d)), eT (.lst (thL s)), x2, eD m.d, u4, u5], ?_⟩
    cases hc with
    | @give a ha =>
      refine ⟨[eD (.lst (ms.map Mv.d)), eT (.lst (thL ⟨[⟨a, 0, none⟩], []⟩)), x2, eD (Mv.d ⟨"give", [a]⟩), u4, u5], rfl, ?_, ⟨_, _, _, _, rfl, hx⟩⟩
      simp [Mv.d, thL, Th.d, orD, sizeLine]
    | @call _ t a h ha hs =>
      have hg := hf.g _ (List.getElem_mem h)
      have e1 : (1 : Int) - (s.th[t].g : Int) = ((1 - s.th[t].g : Nat) : Int) := by omega
      refine ⟨[eD (.lst (ms.map Mv.d)), eT (.lst (thL ⟨s.th ++ [⟨a, 1 - s.th[t].g, some (t, 1)⟩], s.ca ++ [(t, false)]⟩)), eT (.lst (caL ⟨s.th ++ [⟨a, 1 - s.th[t].g, some (t, 1)⟩], s.ca ++ [(t, false)]⟩)), eD (Mv.d ⟨"call", [.n t, a]⟩), u4, eI ((1 : Int) - (s.th[t].g : Int))], rfl, ?_, ⟨_, _, _, _, rfl, .inl rfl⟩⟩
      rcases hx with rfl | rfl <;> simp [Mv.d, atn, Th.d, orD, caD, ix_th h, lt, adf, adf0, thL_snoc, caL_snoc, caL_same, e1]
    | @left _ t a h ha hs =>
      have hg := hf.g _ (List.getElem_mem h)
      have e1 : (1 : Int) - (s.th[t].g : Int) = ((1 - s.th[t].g : Nat) : Int) := by omega
      refine ⟨[eD (.lst (ms.map Mv.d)), eT (.lst (thL ⟨s.th ++ [⟨a, s.th[t].g, some (t, 1)⟩], s.ca⟩)), eT (.lst (caL ⟨s.th ++ [⟨a, s.th[t].g, some (t, 1)⟩], s.ca⟩)), eD (Mv.d ⟨"left", [.n t, a]⟩), u4, eI (s.th[t].g : Int)], rfl, ?_, ⟨_, _, _, _, rfl, .inl rfl⟩⟩
      rcases hx with rfl | rfl <;> simp [Mv.d, atn, Th.d, orD, caD, ix_th h, lt, adf, adf0, thL_snoc, caL_snoc, caL_same, e1]
    | @right _ t a h ha hs =>
      have hg := hf.g _ (List.getElem_mem h)
      have e1 : (1 : Int) - (s.th[t].g : Int) = ((1 - s.th[t].g : Nat) : Int) := by omega
      refine ⟨[eD (.lst (ms.map Mv.d)), eT (.lst (thL ⟨s.th ++ [⟨a, s.th[t].g, some (t, 2)⟩], s.ca⟩)), eT (.lst (caL ⟨s.th ++ [⟨a, s.th[t].g, some (t, 2)⟩], s.ca⟩)), eD (Mv.d ⟨"right", [.n t, a]⟩), u4, eI (s.th[t].g : Int)], rfl, ?_, ⟨_, _, _, _, rfl, .inl rfl⟩⟩
      rcases hx with rfl | rfl <;> simp [Mv.d, atn, Th.d, orD, caD, ix_th h, lt, adf, adf0, thL_snoc, caL_snoc, caL_same, e1]
    | @answer _ c a h h2 ha hs =>
      refine ⟨[eD (.lst (ms.map Mv.d)), eT (.lst (thL ⟨s.th ++ [⟨a, s.th[s.ca[c].1].g, some (s.ca[c].1, 2)⟩], s.ca.set c (s.ca[c].1, true)⟩)), eT (.lst (caL ⟨s.th ++ [⟨a, s.th[s.ca[c].1].g, some (s.ca[c].1, 2)⟩], s.ca.set c (s.ca[c].1, true)⟩)), eD (Mv.d ⟨"answer", [.n c, a]⟩), eI (s.ca[c].1 : Int), u5], rfl, ?_, ⟨_, _, _, _, rfl, .inl rfl⟩⟩
      have hl : (caL s).length = s.ca.length := by simp [caL]
      have hc1 : cutA (caL s) none (some (c : Int)) = (caL s).take c := cut_hi _ _ (by omega)
      have hc2 : cutA (caL s) (some ((c : Int) + 1)) none = (caL s).drop (c + 1) := cut_lo _ (c + 1) (by omega)
      have ad1 : ∀ x, addf (.lst ((caL s).take c)) (.lst [x]) = some (.lst ((caL s).take c ++ [x])) := fun x => addf_lst _ _ (by simp; omega)
      have ad2 : ∀ x, addf (.lst ((caL s).take c ++ [x])) (.lst ((caL s).drop (c + 1))) = some (.lst (((caL s).take c ++ [x]) ++ (caL s).drop (c + 1))) := fun x => addf_lst _ _ (by simp; omega)
      rcases hx with rfl | rfl <;> simp [Mv.d, atn, Th.d, orD, caD, ix_th h2, ix_ca h, lt, hc1, hc2, ad1, ad2, thL_snoc, caL_set _ _ _ _ h]
    | @use _ t h =>
      refine ⟨[eD (.lst (ms.map Mv.d)), eT (.lst (thL s)), x2, eD (Mv.d ⟨"use", [.n t]⟩), u4, u5], rfl, ?_, ⟨_, _, _, _, rfl, hx⟩⟩
      simp [Mv.d]
  · rintro e ⟨x2, u3, u4, u5, rfl, hx⟩
    rcases hx with rfl | rfl <;> simp
end K02

end
section
namespace K02
open PySem PySem.Spec PyProof.Rows L2 DL LamX
/-- the shapes -/
def shL (z : Nat) : List At := (List.range z).map .n ++ [.s "call", .s "pair"]
def toldD (z : Nat) : D := .dic [(.str "size", .int (z : Int)), (.str "terms", .dic [])]
theorem dg_size (z : Nat) : dgf (toldD z) (.str "size") = some (.int (z : Int)) := by kernel_rfl
theorem okRg_nat (z : Nat) (hz : z ≤ 1000) : okRg (.int (z : Int)) = some (z : Int) := by
  unfold okRg
  simp only
  rw [if_pos]
  exact ⟨by omega, by omega, by omega⟩
theorem rgD_nat (z : Nat) : rgD (z : Int) = ((List.range z).map At.n).map At.d := by
  unfold rgD
  simp [atn]
theorem addf_sh (z : Nat) (hz : z ≤ 1000) : addf (.lst (((List.range z).map At.n).map At.d)) (.lst [.str "call", .str "pair"]) = some (.lst ((shL z).map At.d)) := by
  rw [addf_lst _ _ (by simp; omega)]
  simp [shL, At.d]
theorem e_shapes (z : Nat) (hz : z ≤ 1000) : semOf 1 0 [] D_law_shapes.1 [.fz (toldD z)] = .ok (.lst ((shL z).map At.d)) [none] := by
  rw [show semOf 1 0 [] D_law_shapes.1 [.fz (toldD z)] = _ from semOf_ok rfl]
  simp only [D_law_shapes]
  simp -implicitDefEqProofs [dg_size, okRg_nat z hz, rgD_nat, addf_sh z hz, -List.map_map]
end K02

end
section
namespace K02
open PySem PySem.Spec PyProof.Rows L2 DL LamX
/-! ### all moves that can be made -/
def words (a : At) : List Str := match a with
  | .s x => if x = "call" then ["call"] else if x = "pair" then ["left", "right"] else []
  | .n _ => []
def thMoves (sh : List At) (p : Th × Nat) : List Mv := (words p.1.sh).flatMap fun w => sh.map fun a => ⟨w, [.n p.2, a]⟩
def caMoves (sh : List At) (p : (Nat × Bool) × Nat) : List Mv := if p.1.2 = true then [] else sh.map fun a => ⟨"answer", [.n p.2, a]⟩
def couldL (sh : List At) (s : St) : List Mv := if s.th = [] then sh.map (fun a => ⟨"give", [a]⟩) else
  (s.th.zipIdx.flatMap (thMoves sh) ++ s.ca.zipIdx.flatMap (caMoves sh)) ++ (List.range s.th.length).map fun i => ⟨"use", [.n i]⟩
/-- the shapes of things are shapes -/
theorem run_ok {ok : At → Prop} {p q : Nat × St} {ms : List Mv} (r : Run ok p ms q) (h : ∀ t ∈ p.2.th, ok t.sh) : ∀ t ∈ q.2.th, ok t.sh := by
  induction r with
  | nil => exact h
  | @cons s s1 s2 m ms a _ ih =>
    obtain ⟨n, s⟩ := s
    obtain ⟨n1, s1⟩ := s1
    obtain ⟨_, _, c, _⟩ := a
    refine ih ?_
    simp only at c h ⊢
    have ap : ∀ (x : Th), ok x.sh → ∀ t ∈ s.th ++ [x], ok t.sh := fun x hx t ht => by
      rcases List.mem_append.mp ht with q | q
      · exact h t q
      · rw [List.mem_singleton.mp q]; exact hx
    cases c with
    | give ha => intro t ht; rw [List.mem_singleton.mp ht]; exact ha
    | call _ ha _ => exact ap _ ha
    | left _ ha _ => exact ap _ ha
    | right _ ha _ => exact ap _ ha
    | answer _ _ ha _ => exact ap _ ha
    | use _ => exact h
theorem run_fine {ok : At → Prop} {p q : Nat × St} {ms : List Mv} (r : Run ok p ms q) (h : Fine p.2 p.1) : Fine q.2 q.1 := by
  induction r with
  | nil => exact h
  | @cons s s1 s2 m ms a _ ih =>
    obtain ⟨_, f, c, e⟩ := a
    exact ih (by rw [e]; exact c.fine f)
theorem run_len {ok : At → Prop} {p q : Nat × St} {ms : List Mv} (r : Run ok p ms q) : q.1 = p.1 + ms.length := by
  induction r with
  | nil => rfl
  | cons a _ ih => rw [ih, a.2.2.2, List.length_cons]; omega
end K02

end
section
namespace K02
open PySem PySem.Spec PyProof.Rows L2 DL LamX
theorem run_ne {ok : At → Prop} {q : Nat × St} {m : Mv} {ms : List Mv} (r : Run ok (0, ⟨[], []⟩) (m :: ms) q) : q.2.th ≠ [] := by
  have mono : ∀ {p q : Nat × St} {ms : List Mv}, Run ok p ms q → p.2.th ≠ [] → q.2.th ≠ [] := by
    intro p q ms r h
    induction r with
    | nil => exact h
    | @cons s s1 s2 m ms a _ ih =>
      obtain ⟨n, s⟩ := s
      obtain ⟨n1, s1⟩ := s1
      obtain ⟨_, _, c, _⟩ := a
      refine ih ?_
      simp only at c h ⊢
      cases c <;> simp_all
  cases r with
  | @cons _ s1 _ _ _ a b =>
    obtain ⟨n1, s1⟩ := s1
    obtain ⟨_, _, c, _⟩ := a
    refine mono b ?_
    simp only at c ⊢
    cases c with
    | give _ => simp
    | call h _ _ => simp at h
    | left h _ _ => simp at h
    | right h _ _ => simp at h
    | answer h _ _ _ => simp at h
    | use h => simp at h
@[simp] theorem i_call (i : Int) : orF eqf eqL (.int i) (.str (Str.ofString "call")) = some (.bl false) := by kernel_rfl
@[simp] theorem i_pair (i : Int) : orF eqf eqL (.int i) (.str (Str.ofString "pair")) = some (.bl false) := by kernel_rfl
theorem shL_len (z : Nat) : (shL z).length = z + 2 := by simp [shL]
theorem pyDs_len : ∀ {xs : List D} {ps : List PyData}, pyDs xs = some ps → ps.length = xs.length
  | [], ps, h => by simp only [pyDs, Option.some.injEq] at h; subst h; rfl
  | x :: xs, ps, h => by
    simp only [pyDs] at h
    cases e1 : pyD x with
    | none => rw [e1] at h; cases h
    | some a =>
      cases e2 : pyDs xs with
      | none => rw [e1, e2] at h; cases h
      | some b => rw [e1, e2] at h; cases h; simp [pyDs_len e2]
theorem eq_nil (xs : List D) : orF eqf eqL (.lst xs) (.lst []) = some (.bl (decide (xs = []))) := by
  have hL : eqL (.lst xs) (.lst []) = some (.bl (decide (xs = []))) := by
    cases xs with
    | nil => rfl
    | cons x xs => simp [eqL, rowLst]
  unfold orF
  cases e : eqf (.lst xs) (.lst []) with
  | none => exact hL
  | some c =>
    simp only
    unfold eqf at e
    cases e1 : pyD (.lst xs) with
    | none => rw [e1] at e; cases e
    | some a =>
      simp only [pyD] at e1
      cases e2 : pyDs xs with
      | none => rw [e2] at e1; cases e1
      | some ps =>
        rw [e2] at e1
        cases e1
        simp only [pyD, e2, Option.map_some, pyDs] at e
        split at e
        · cases e
          have hl := pyDs_len e2
          cases xs with
          | nil =>
            cases ps with
            | nil => rfl
            | cons p ps => cases hl
          | cons x xs =>
            cases ps with
            | nil => cases hl
            | cons p ps => simp [PyData.eqv, PyData.eqvAll]
        · cases e
end K02

end
section
namespace K02
open PySem PySem.Spec PyProof.Rows L2 DL LamX
def shD (z : Nat) : List D := (shL z).map At.d
theorem call_shapes (z : Nat) (hz : z ≤ 1000) (e : DL.Env) (gs : DL.Env → Out (List D)) (h : gs e = .ok [toldD z] e) : callG 1 (semOf 1 0 [] D_law_shapes.1) gs e = .ok (.lst (shD z)) e := by
  rw [callG_eq, h, b_ok]
  simp -implicitDefEqProofs [e_shapes z hz, shD, -List.map_map]
theorem e_could0 (z : Nat) (hz : z ≤ 1000) : semOf 2 12 [] D_law_could.1 [.fz (toldD z), .fz (.lst [])] = .ok (.lst ((couldL (shL z) ⟨[], []⟩).map Mv.d)) [none, none] := by
  rw [show semOf 2 12 [] D_law_could.1 [.fz (toldD z), .fz (.lst [])] = _ from semOf_ok rfl]
  simp only [D_law_could]
  have hc := compG_map (gi := fun env => (rdz 2 env).bind fun d e => lft (iterD d) e) (gt := gtN 3) (gc := fun e => Out.ok true e) (ge := fun env => ((Out.ok (D.str (Str.ofString "give")) env).bind fun x e => ((rdz 3 e).bind fun x e => (Out.ok [] e).bind fun xs e => Out.ok (x :: xs) e).bind fun xs e => Out.ok (x :: xs) e).bind fun ds e => if small ds = true then Out.ok (D.tup ds) e else Out.fail) (vs := [3])
    (env := [eD (toldD z), eD (.lst []), eT (.lst ((shL z).map At.d)), none, none, none, none, none, none, none, none, none, none, none])
    [eD (toldD z), eD (.lst []), eD (.lst ((shL z).map At.d)), none, none, none, none, none, none, none, none, none, none, none] ((shL z).map At.d) (fun d => .tup [.str "give", d]) (by simp -implicitDefEqProofs) (fun _ => rfl)
    (fun d _ => ⟨[eD (toldD z), eD (.lst []), eD (.lst ((shL z).map At.d)), eD d, none, none, none, none, none, none, none, none, none, none], by simp -implicitDefEqProofs [wipeE], by simp -implicitDefEqProofs, by simp -implicitDefEqProofs [wipeE]⟩) (by simp [shL_len, sizeLine]; omega)
  simp -implicitDefEqProofs [-List.map_map] at hc
  simp -implicitDefEqProofs [eq_nil, e_shapes z hz, -List.map_map]
  rw [hc]
  simp -implicitDefEqProofs [couldL, Mv.d]
end K02

end
section
namespace K02
open PySem PySem.Spec PyProof.Rows L2 DL LamX
/-- [(w, n, one) for one in shapes] -/
theorem comp3 (gw : DL.Env → Out D) (w : Str) (sh : List D) (i : Int) (a0 a1 x2 a3 a4 a5 a6 a8 a9 a10 a11 a12 a13 : Option Ent) (hx : IsL x2 sh) (hs : sh.length ≤ 1000)
    (hg : ∀ b2 b11, gw [a0, a1, b2, a3, a4, a5, a6, eI i, a8, a9, a10, b11, a12, a13] = .ok (.str w) [a0, a1, b2, a3, a4, a5, a6, eI i, a8, a9, a10, b11, a12, a13]) :
    ∃ u, compG (fun env => (rdz 2 env).bind fun d e => lft (iterD d) e) (gtN 11) (fun e => Out.ok true e) (fun env => ((gw env).bind fun x e => ((rdz 7 e).bind fun x e => ((rdz 11 e).bind fun x e => (Out.ok [] e).bind fun xs e => Out.ok (x :: xs) e).bind fun xs e => Out.ok (x :: xs) e).bind fun xs e => Out.ok (x :: xs) e).bind fun ds e => if small ds = true then Out.ok (D.tup ds) e else Out.fail) [11]
      [a0, a1, x2, a3, a4, a5, a6, eI i, a8, a9, a10, a11, a12, a13] = .ok (.lst (sh.map fun d => .tup [.str w, .int i, d])) [a0, a1, eD (.lst sh), a3, a4, a5, a6, eI i, a8, a9, a10, u, a12, a13] := by
  refine ⟨_, compG_map [a0, a1, eD (.lst sh), a3, a4, a5, a6, eI i, a8, a9, a10, a11, a12, a13] sh (fun d => .tup [.str w, .int i, d]) ?_ (fun _ => rfl) (fun d _ => ⟨[a0, a1, eD (.lst sh), a3, a4, a5, a6, eI i, a8, a9, a10, eD d, a12, a13], rfl, ?_, rfl⟩) (Nat.le_trans hs (by decide))⟩
  · rcases hx with rfl | rfl <;> simp -implicitDefEqProofs
  · simp -implicitDefEqProofs [hg]
end K02

end
section
namespace K02
open PySem PySem.Spec PyProof.Rows L2 DL LamX
def couI (a0 a1 a4 a5 : Option Ent) (sh : List D) (acc : List Mv) (e : DL.Env) : Prop := ∃ x2 u3 x6 u7 u8 u9 u10 u11 u12 u13, e = [a0, a1, x2, u3, a4, a5, x6, u7, u8, u9, u10, u11, u12, u13] ∧ IsL x2 sh ∧ IsL x6 (acc.map Mv.d)
/-- a turn for a word -/
theorem word_turn (a0 a1 a4 a5 : Option Ent) (sh : List At) (hs : sh.length ≤ 1000) (acc : List Mv) (ha : acc.length ≤ 1000000) (w : Str) (i : Nat) (x2 u3 x6 u8 u9 u11 u12 u13 : Option Ent) (h2 : IsL x2 (sh.map At.d)) (h6 : IsL x6 (acc.map Mv.d)) :
    ∃ u, (((rdz 6 [a0, a1, x2, u3, a4, a5, x6, eI (i : Int), u8, u9, eD (.str w), u11, u12, u13]).bind fun x e => ((compG (fun env => (rdz 2 env).bind fun d e => lft (iterD d) e) (gtN 11) (fun e => Out.ok true e) (fun env => ((rdz 10 env).bind fun x e => ((rdz 7 e).bind fun x e => ((rdz 11 e).bind fun x e => (Out.ok [] e).bind fun xs e => Out.ok (x :: xs) e).bind fun xs e => Out.ok (x :: xs) e).bind fun xs e => Out.ok (x :: xs) e).bind fun ds e => if small ds = true then Out.ok (D.tup ds) e else Out.fail) [11] e).map er).bind fun y e => lft (addf x y) e).bind (stv 6))
      = .ok .nx [a0, a1, eD (.lst (sh.map At.d)), u3, a4, a5, eT (.lst ((acc ++ sh.map fun a => (⟨w, [.n i, a]⟩ : Mv)).map Mv.d)), eI (i : Int), u8, u9, eD (.str w), u, u12, u13] := by
  obtain ⟨u, hc⟩ := comp3 (rdz 10) w (sh.map At.d) (i : Int) a0 a1 x2 u3 a4 a5 (eD (.lst (acc.map Mv.d))) u8 u9 (eD (.str w)) u11 u12 u13 h2 (by simpa using hs) (fun _ _ => by simp -implicitDefEqProofs)
  refine ⟨u, ?_⟩
  have e6 : rdz 6 [a0, a1, x2, u3, a4, a5, x6, eI (i : Int), u8, u9, eD (.str w), u11, u12, u13] = .ok (.lst (acc.map Mv.d)) [a0, a1, x2, u3, a4, a5, eD (.lst (acc.map Mv.d)), eI (i : Int), u8, u9, eD (.str w), u11, u12, u13] := by
    rcases h6 with rfl | rfl <;> simp -implicitDefEqProofs
  rw [e6, b_ok, hc, m_ok, b_ok]
  have ad : addf (.lst (acc.map Mv.d)) (.lst ((sh.map At.d).map fun d => .tup [.str w, .int (i : Int), d])) = some (.lst ((acc ++ sh.map fun a => (⟨w, [.n i, a]⟩ : Mv)).map Mv.d)) := by
    rw [addf_lst _ _ (by simp; omega)]
    simp [Mv.d, atn]
  rw [er_lst, ad]
  simp -implicitDefEqProofs
end K02

end
section
namespace K02
open PySem PySem.Spec PyProof.Rows L2 DL LamX
/-- a turn for a call: the answers -/
theorem ans_turn (a0 a1 a4 a5 : Option Ent) (sh : List At) (hs : sh.length ≤ 1000) (acc : List Mv) (ha : acc.length ≤ 1000000) (i : Nat) (x2 u3 x6 u8 u9 u10 u11 u12 : Option Ent) (b : Bool) (h2 : IsL x2 (sh.map At.d)) (h6 : IsL x6 (acc.map Mv.d)) :
    ∃ u x2', IsL x2' (sh.map At.d) ∧ (((rdz 6 [a0, a1, x2, u3, a4, a5, x6, eI (i : Int), u8, u9, u10, u11, u12, eD (.bl b)]).bind fun x e => ((((rdz 13 e).bind fun x e => lft (asB x) e).bind fun c e => Out.ok (!c) e).bind fun c e =>
                              if c = true then (compG (fun env => (rdz 2 env).bind fun d e => lft (iterD d) e) (gtN 11) (fun e => Out.ok true e) (fun env => ((Out.ok (D.str (Str.ofString "answer")) env).bind fun x e => ((rdz 7 e).bind fun x e => ((rdz 11 e).bind fun x e => (Out.ok [] e).bind fun xs e => Out.ok (x :: xs) e).bind fun xs e => Out.ok (x :: xs) e).bind fun xs e => Out.ok (x :: xs) e).bind fun ds e => if small ds = true then Out.ok (D.tup ds) e else Out.fail) [11] e).map er
                              else ((Out.ok [] e).bind fun ds e => if small ds = true then Out.ok (T.lst ds) e else Out.fail).map er).bind fun y e => lft (addf x y) e).bind (stv 6))
      = .ok .nx [a0, a1, x2', u3, a4, a5, eT (.lst ((acc ++ caMoves sh ((0, b), i)).map Mv.d)), eI (i : Int), u8, u9, u10, u, u12, eD (.bl b)] := by
  obtain ⟨u, hc⟩ := comp3 (fun env => .ok (D.str (Str.ofString "answer")) env) "answer" (sh.map At.d) (i : Int) a0 a1 x2 u3 a4 a5 (eD (.lst (acc.map Mv.d))) u8 u9 u10 u11 u12 (eD (.bl b)) h2 (by simpa using hs) (fun _ _ => rfl)
  have e6 : rdz 6 [a0, a1, x2, u3, a4, a5, x6, eI (i : Int), u8, u9, u10, u11, u12, eD (.bl b)] = .ok (.lst (acc.map Mv.d)) [a0, a1, x2, u3, a4, a5, eD (.lst (acc.map Mv.d)), eI (i : Int), u8, u9, u10, u11, u12, eD (.bl b)] := by
    rcases h6 with rfl | rfl <;> simp -implicitDefEqProofs
  have ad : addf (.lst (acc.map Mv.d)) (.lst ((sh.map At.d).map fun d => .tup [.str "answer", .int (i : Int), d])) = some (.lst ((acc ++ sh.map fun a => (⟨"answer", [.n i, a]⟩ : Mv)).map Mv.d)) := by
    rw [addf_lst _ _ (by simp; omega)]
    simp [Mv.d, atn]
  have ad0 : addf (.lst (acc.map Mv.d)) (.lst []) = some (.lst (acc.map Mv.d)) := by rw [addf_lst _ _ (by simp; omega), List.append_nil]
  have e13 : rdz 13 [a0, a1, x2, u3, a4, a5, eD (.lst (acc.map Mv.d)), eI (i : Int), u8, u9, u10, u11, u12, eD (.bl b)] = .ok (.bl b) [a0, a1, x2, u3, a4, a5, eD (.lst (acc.map Mv.d)), eI (i : Int), u8, u9, u10, u11, u12, eD (.bl b)] := by simp -implicitDefEqProofs
  cases b with
  | false =>
    refine ⟨u, _, .inr rfl, ?_⟩
    rw [e6, b_ok, e13, b_ok, asB_bl, l_some, b_ok, b_ok]
    simp only [Bool.not_false, if_true]
    rw [hc, m_ok, b_ok, er_lst, ad]
    simp -implicitDefEqProofs [caMoves]
  | true =>
    refine ⟨u11, x2, h2, ?_⟩
    rw [e6, b_ok, e13, b_ok, asB_bl, l_some, b_ok, b_ok]
    simp -implicitDefEqProofs [caMoves, ad0]
end K02

end
section
namespace K02
open PySem PySem.Spec PyProof.Rows L2 DL LamX
def Shp (a : At) : Prop := (∃ k, a = .n k) ∨ a = .s "call" ∨ a = .s "pair"
theorem words_pair : words (.s (Str.ofString "pair")) = [Str.ofString "left", Str.ofString "right"] := by
  unfold words
  simp only
  rw [if_neg (by decide +kernel), if_pos trivial]
/-- a turn for a thing -/
theorem th_turn (a0 a1 a4 a5 : Option Ent) (sh : List At) (hs : sh.length ≤ 1000) (acc : List Mv) (ha : acc.length ≤ 990000) (i : Nat) (t : Th) (ht : Shp t.sh) (x2 x6 u8 u9 u10 u11 u12 u13 : Option Ent) (h2 : IsL x2 (sh.map At.d)) (h6 : IsL x6 (acc.map Mv.d)) :
    ∃ e2, ((((rdz 3 [a0, a1, x2, eD t.sh.d, a4, a5, x6, eI (i : Int), u8, u9, u10, u11, u12, u13]).bind fun x e => (Out.ok (D.str (Str.ofString "call")) e).bind fun y e => lft ((orF eqf eqL x y).bind asB) e).bind fun c e =>
        if c = true then (((Out.ok (D.str (Str.ofString "call")) e).bind fun x e => (Out.ok [] e).bind fun xs e => Out.ok (x :: xs) e).bind fun ds e => if small ds = true then Out.ok (T.lst ds) e else Out.fail).map er
        else ((rdz 3 e).bind fun x e => (Out.ok (D.str (Str.ofString "pair")) e).bind fun y e => lft ((orF eqf eqL x y).bind asB) e).bind fun c e =>
          if c = true then (((Out.ok (D.str (Str.ofString "left")) e).bind fun x e => ((Out.ok (D.str (Str.ofString "right")) e).bind fun x e => (Out.ok [] e).bind fun xs e => Out.ok (x :: xs) e).bind fun xs e => Out.ok (x :: xs) e).bind fun ds e => if small ds = true then Out.ok (T.lst ds) e else Out.fail).map er
          else ((Out.ok [] e).bind fun ds e => if small ds = true then Out.ok (T.lst ds) e else Out.fail).map er).bind fun d e => lft (iterD d) e).bind
      (forD (gtN 10) fun env => ((rdz 6 env).bind fun x e => ((compG (fun env => (rdz 2 env).bind fun d e => lft (iterD d) e) (gtN 11) (fun e => Out.ok true e) (fun env => ((rdz 10 env).bind fun x e => ((rdz 7 e).bind fun x e => ((rdz 11 e).bind fun x e => (Out.ok [] e).bind fun xs e => Out.ok (x :: xs) e).bind fun xs e => Out.ok (x :: xs) e).bind fun xs e => Out.ok (x :: xs) e).bind fun ds e => if small ds = true then Out.ok (D.tup ds) e else Out.fail) [11] e).map er).bind fun y e => lft (addf x y) e).bind (stv 6))
      = .ok .nx e2 ∧ couI a0 a1 a4 a5 (sh.map At.d) (acc ++ thMoves sh (t, i)) e2 := by
  generalize hb : (fun env : DL.Env => ((rdz 6 env).bind fun x e => ((compG (fun env => (rdz 2 env).bind fun d e => lft (iterD d) e) (gtN 11) (fun e => Out.ok true e) (fun env => ((rdz 10 env).bind fun x e => ((rdz 7 e).bind fun x e => ((rdz 11 e).bind fun x e => (Out.ok [] e).bind fun xs e => Out.ok (x :: xs) e).bind fun xs e => Out.ok (x :: xs) e).bind fun xs e => Out.ok (x :: xs) e).bind fun ds e => if small ds = true then Out.ok (D.tup ds) e else Out.fail) [11] e).map er).bind fun y e => lft (addf x y) e).bind (stv 6)) = body
  have wt : ∀ (acc : List Mv), acc.length ≤ 1000000 → ∀ (w : Str) (x2 u3 x6 u11 : Option Ent), IsL x2 (sh.map At.d) → IsL x6 (acc.map Mv.d) → ∃ u, body [a0, a1, x2, u3, a4, a5, x6, eI (i : Int), u8, u9, eD (.str w), u11, u12, u13] = .ok .nx [a0, a1, eD (.lst (sh.map At.d)), u3, a4, a5, eT (.lst ((acc ++ sh.map fun a => (⟨w, [.n i, a]⟩ : Mv)).map Mv.d)), eI (i : Int), u8, u9, eD (.str w), u, u12, u13] := by
    intro acc ha w x2 u3 x6 u11 h2 h6
    rw [← hb]
    exact word_turn a0 a1 a4 a5 sh hs acc ha w i x2 u3 x6 u8 u9 u11 u12 u13 h2 h6
  clear hb
  rcases ht with ⟨k, e⟩ | e | e
  · rw [e]
    refine ⟨[a0, a1, x2, eI (k : Int), a4, a5, x6, eI (i : Int), u8, u9, u10, u11, u12, u13], by simp -implicitDefEqProofs [At.d], ⟨_, _, _, _, _, _, _, _, _, _, rfl, h2, ?_⟩⟩
    simpa [thMoves, e, words] using h6
  · rw [e]
    obtain ⟨u, h⟩ := wt acc (by omega) "call" x2 (eD (.str "call")) x6 u11 h2 h6
    refine ⟨[a0, a1, eD (.lst (sh.map At.d)), eD (.str "call"), a4, a5, eT (.lst ((acc ++ sh.map fun a => (⟨"call", [.n i, a]⟩ : Mv)).map Mv.d)), eI (i : Int), u8, u9, eD (.str "call"), u, u12, u13], by simp -implicitDefEqProofs [At.d, h, -List.map_append, -List.map_map], ⟨_, _, _, _, _, _, _, _, _, _, rfl, .inr rfl, .inl ?_⟩⟩
    simp [thMoves, e, words]
  · rw [e]
    obtain ⟨u, h⟩ := wt acc (by omega) "left" x2 (eD (.str "pair")) x6 u11 h2 h6
    obtain ⟨u', h'⟩ := wt (acc ++ sh.map fun a => (⟨"left", [.n i, a]⟩ : Mv)) (by simp; omega) "right" _ (eD (.str "pair")) _ u (.inr rfl) (.inl rfl)
    refine ⟨[a0, a1, eD (.lst (sh.map At.d)), eD (.str "pair"), a4, a5, eT (.lst (((acc ++ sh.map fun a => (⟨"left", [.n i, a]⟩ : Mv)) ++ sh.map fun a => (⟨"right", [.n i, a]⟩ : Mv)).map Mv.d)), eI (i : Int), u8, u9, eD (.str "right"), u', u12, u13], by simp -implicitDefEqProofs [At.d, h, h', -List.map_append, -List.map_map, -List.append_assoc], ⟨_, _, _, _, _, _, _, _, _, _, rfl, .inr rfl, .inl ?_⟩⟩
    simp [thMoves, e, words_pair]
end K02

end
section
namespace K02
open PySem PySem.Spec PyProof.Rows L2 DL LamX
theorem run_app {μ ν : Type} {F : μ → List ν} {p : μ → Prop} {L B : Nat} : ∀ {ps : List μ} {acc : List ν}, (∀ x ∈ ps, p x ∧ (F x).length ≤ L) → acc.length + ps.length * L ≤ B → RunR (fun a x a' => p x ∧ a.length ≤ B ∧ a' = a ++ F x) acc ps (acc ++ ps.flatMap F)
  | [], acc, _, _ => by simpa using RunR.nil
  | x :: ps, acc, h, hb => by
    have hx := h x (by simp)
    have e : acc ++ (x :: ps).flatMap F = (acc ++ F x) ++ ps.flatMap F := by simp
    rw [List.length_cons, Nat.add_mul] at hb
    rw [e]
    exact .cons ⟨hx.1, by omega, rfl⟩ (run_app (fun y hy => h y (by simp [hy])) (by rw [List.length_append]; have := hx.2; omega))
theorem thMoves_len (sh : List At) (p : Th × Nat) : (thMoves sh p).length ≤ 2 * sh.length := by
  unfold thMoves words
  cases p.1.sh with
  | n k => simp
  | s x =>
    simp only
    split
    · simp; omega
    · split
      · simp; omega
      · simp
theorem caMoves_len (sh : List At) (p : (Nat × Bool) × Nat) : (caMoves sh p).length ≤ 2 * sh.length := by
  unfold caMoves
  split
  · simp
  · simp; omega
end K02

end
section
namespace K02
open PySem PySem.Spec PyProof.Rows L2 DL LamX
theorem enum_th (s : St) : enumD (thL s) = s.th.zipIdx.map fun p => D.tup [.int (p.2 : Nat), p.1.d] := by
  unfold enumD thL
  rw [List.zipIdx_map, List.map_map]
  rfl
theorem enum_ca (s : St) : enumD (caL s) = s.ca.zipIdx.map fun p => D.tup [.int (p.2 : Nat), caD p.1] := by
  unfold enumD caL
  rw [List.zipIdx_map, List.map_map]
  rfl
theorem enm_lst (ds : List D) : enm [.lst ds] = some (enumD ds) := rfl
end K02

end
section
namespace K02
open PySem PySem.Spec PyProof.Rows L2 DL LamX
theorem e_could {z : Nat} (hz : z ≤ 10) {ms : List Mv} {m : Mv} {p : Nat × St} (run : Run (· ∈ shL z) (0, ⟨[], []⟩) (m :: ms) p) (hp : p.1 ≤ 100) (hsh : ∀ t ∈ p.2.th, Shp t.sh) (hf : Fine p.2 100) :
    semOf 2 12 [] D_law_could.1 [.fz (toldD z), .fz (.lst ((m :: ms).map Mv.d))] = .ok (.lst ((couldL (shL z) p.2).map Mv.d)) [none, none] := by
  obtain ⟨n, s⟩ := p
  simp only at hp hsh hf ⊢
  have hne := run_ne run
  simp only at hne
  have eth := e_things run
  simp only at eth
  rw [show semOf 2 12 [] D_law_could.1 [.fz (toldD z), .fz (.lst ((m :: ms).map Mv.d))] = _ from semOf_ok rfl]
  simp only [D_law_could]
  have hs : (shL z).length ≤ 1000 := by rw [shL_len]; omega
  generalize hM : (m :: ms).map Mv.d = M at eth ⊢
  have hM0 : M ≠ [] := by rw [← hM]; simp
  refine seq_step [eD (toldD z), eD (.lst M), eT (.lst (shD z)), none, none, none, none, none, none, none, none, none, none, none] (P := fun o => fin [] 2 o = FO.ok (.lst ((couldL (shL z) s).map Mv.d)) [none, none]) ?_ ?_
  · simp -implicitDefEqProofs [e_shapes z (by omega), shD, -List.map_map]
  refine seq_step [eD (toldD z), eD (.lst M), eT (.lst (shD z)), none, none, none, none, none, none, none, none, none, none, none] (P := fun o => fin [] 2 o = FO.ok (.lst ((couldL (shL z) s).map Mv.d)) [none, none]) ?_ ?_
  · simp -implicitDefEqProofs [eq_nil, hM0]
  refine seq_step [eD (toldD z), eD (.lst M), eT (.lst (shD z)), none, eD (.lst (thL s)), eD (.lst (caL s)), none, none, none, none, none, none, none, none] (P := fun o => fin [] 2 o = FO.ok (.lst ((couldL (shL z) s).map Mv.d)) [none, none]) ?_ ?_
  · simp -implicitDefEqProofs [eth]
  refine seq_step [eD (toldD z), eD (.lst M), eT (.lst (shD z)), none, eD (.lst (thL s)), eD (.lst (caL s)), eT (.lst []), none, none, none, none, none, none, none] (P := fun o => fin [] 2 o = FO.ok (.lst ((couldL (shL z) s).map Mv.d)) [none, none]) ?_ ?_
  · simp -implicitDefEqProofs
  have run1 := run_app (F := thMoves (shL z)) (p := fun q : Th × Nat => Shp q.1.sh) (L := 2 * (shL z).length) (B := 900000) (ps := s.th.zipIdx) (acc := []) (fun q hq => ⟨hsh _ (by have := List.mem_zipIdx' hq; rw [this.2]; exact List.getElem_mem _), thMoves_len _ _⟩) (by
    rw [List.length_zipIdx, shL_len]
    have := hf.n1
    have h24 : 2 * (z + 2) ≤ 24 := by omega
    calc [].length + s.th.length * (2 * (z + 2)) = s.th.length * (2 * (z + 2)) := by simp
      _ ≤ 100 * 24 := Nat.mul_le_mul this h24
      _ ≤ 900000 := by decide)
  simp only [rdz_s, rdz_z, upO_ok, b_ok, enm_lst, l_some, enum_th]
  refine seq_forR (couI (eD (toldD z)) (eD (.lst M)) (eD (.lst (thL s))) (eD (.lst (caL s))) (shD z)) (P := fun o => fin [] 2 o = FO.ok (.lst ((couldL (shL z) s).map Mv.d)) [none, none]) run1 ?_ ⟨_, _, _, _, _, _, _, _, _, _, rfl, .inl rfl, .inl rfl⟩ ?_
  · rintro acc ⟨t, i⟩ acc' e ⟨ht, hb, rfl⟩ ⟨x2, u3, x6, u7, u8, u9, u10, u11, u12, u13, rfl, h2, h6⟩
    refine ⟨[eD (toldD z), eD (.lst M), x2, eD t.sh.d, eD (.lst (thL s)), eD (.lst (caL s)), x6, eI (i : Int), eI (t.g : Int), eD (orD t.o), u10, u11, u12, u13], ?_⟩
    obtain ⟨e2, h1, h3⟩ := th_turn (eD (toldD z)) (eD (.lst M)) (eD (.lst (thL s))) (eD (.lst (caL s))) (shL z) hs acc (by omega) i t ht x2 x6 (eI (t.g : Int)) (eD (orD t.o)) u10 u11 u12 u13 h2 h6
    exact ⟨e2, rfl, h1, h3⟩
  rintro e ⟨x2, u3, x6, u7, u8, u9, u10, u11, u12, u13, rfl, h2, h6⟩
  simp only [List.nil_append] at h6
  have hacc : (s.th.zipIdx.flatMap (thMoves (shL z))).length ≤ 2400 := by
    have gen : ∀ l : List (Th × Nat), (l.flatMap (thMoves (shL z))).length ≤ l.length * 24 := by
      intro l
      induction l with
      | nil => simp
      | cons a l ih =>
        have h1 := thMoves_len (shL z) a
        rw [shL_len] at h1
        rw [List.flatMap_cons, List.length_append, List.length_cons]
        omega
    have h1 := gen s.th.zipIdx
    rw [List.length_zipIdx] at h1
    have h2 := hf.n1
    omega
  have run2 := run_app (F := caMoves (shL z)) (p := fun q : (Nat × Bool) × Nat => True) (L := 2 * (shL z).length) (B := 900000) (ps := s.ca.zipIdx) (acc := s.th.zipIdx.flatMap (thMoves (shL z))) (fun q hq => ⟨trivial, caMoves_len _ _⟩) (by
    rw [List.length_zipIdx, shL_len]
    have := hf.n2
    have h24 : 2 * (z + 2) ≤ 24 := by omega
    have h3 := Nat.mul_le_mul this h24
    omega)
  simp only [rdz_s, rdz_z, upO_ok, b_ok, enm_lst, l_some, enum_ca]
  refine seq_forR (couI (eD (toldD z)) (eD (.lst M)) (eD (.lst (thL s))) (eD (.lst (caL s))) (shD z)) (P := fun o => fin [] 2 o = FO.ok (.lst ((couldL (shL z) s).map Mv.d)) [none, none]) run2 ?_ ⟨_, _, _, _, _, _, _, _, _, _, rfl, h2, h6⟩ ?_
  · rintro acc ⟨⟨o, b⟩, i⟩ acc' e ⟨-, hb, rfl⟩ ⟨x2, u3, x6, u7, u8, u9, u10, u11, u12, u13, rfl, h2, h6⟩
    refine ⟨[eD (toldD z), eD (.lst M), x2, u3, eD (.lst (thL s)), eD (.lst (caL s)), x6, eI (i : Int), u8, u9, u10, u11, eI (o : Int), eD (.bl b)], ?_⟩
    obtain ⟨u, x2', h3, h1⟩ := ans_turn (eD (toldD z)) (eD (.lst M)) (eD (.lst (thL s))) (eD (.lst (caL s))) (shL z) hs acc (by omega) i x2 u3 x6 u8 u9 u10 u11 (eI (o : Int)) b h2 h6
    exact ⟨_, rfl, h1, ⟨_, _, _, _, _, _, _, _, _, _, rfl, h3, .inl rfl⟩⟩
  rintro e ⟨x2, u3, x6, u7, u8, u9, u10, u11, u12, u13, rfl, h2, h6⟩
  generalize hA : s.th.zipIdx.flatMap (thMoves (shL z)) ++ s.ca.zipIdx.flatMap (caMoves (shL z)) = A at h6
  have e6 : rdz 6 [eD (toldD z), eD (.lst M), x2, u3, eD (.lst (thL s)), eD (.lst (caL s)), x6, u7, u8, u9, u10, u11, u12, u13] = .ok (.lst (A.map Mv.d)) [eD (toldD z), eD (.lst M), x2, u3, eD (.lst (thL s)), eD (.lst (caL s)), eD (.lst (A.map Mv.d)), u7, u8, u9, u10, u11, u12, u13] := by
    rcases h6 with rfl | rfl <;> simp -implicitDefEqProofs
  have hl : (thL s).length = s.th.length := by simp [thL]
  have n1 := hf.n1
  rw [e6, b_ok, compG_map [eD (toldD z), eD (.lst M), x2, u3, eD (.lst (thL s)), eD (.lst (caL s)), eD (.lst (A.map Mv.d)), u7, u8, u9, u10, u11, u12, u13] (rngD 0 s.th.length) (fun d => .tup [.str "use", d]) (by simp -implicitDefEqProofs [hl, rng1_nat s.th.length (by omega)]) (fun _ => rfl) (fun d _ => ⟨[eD (toldD z), eD (.lst M), x2, u3, eD (.lst (thL s)), eD (.lst (caL s)), eD (.lst (A.map Mv.d)), eD d, u8, u9, u10, u11, u12, u13], rfl, by simp -implicitDefEqProofs, rfl⟩) (by simp [rngD, sizeLine]; omega)]
  have ad : addf (.lst (A.map Mv.d)) (.lst ((rngD 0 s.th.length).map fun d => .tup [.str "use", d])) = some (.lst ((couldL (shL z) s).map Mv.d)) := by
    have hA2 : A.length ≤ 5000 := by
      have gen : ∀ l : List ((Nat × Bool) × Nat), (l.flatMap (caMoves (shL z))).length ≤ l.length * 24 := by
        intro l
        induction l with
        | nil => simp
        | cons a l ih =>
          have h1 := caMoves_len (shL z) a
          rw [shL_len] at h1
          rw [List.flatMap_cons, List.length_append, List.length_cons]
          omega
      have h1 := gen s.ca.zipIdx
      rw [List.length_zipIdx] at h1
      have h2 := hf.n2
      rw [← hA, List.length_append]
      omega
    rw [addf_lst _ _ (by simp [rngD]; omega)]
    simp [couldL, hne, ← hA, rngD, Mv.d, atn]
  rw [m_ok, b_ok, er_lst, ad]
  simp -implicitDefEqProofs
end K02

end
section
namespace K02
open PySem PySem.Spec PyProof.Rows L2 DL LamX
theorem could_can {z n : Nat} {s : St} {m : Mv} (f : Fine s n) (h : m ∈ couldL (shL z) s) : ∃ s', Can (· ∈ shL z) s m s' := by
  unfold couldL at h
  split at h
  · rename_i h0
    obtain ⟨a, ha, rfl⟩ := List.mem_map.mp h
    obtain ⟨th, ca⟩ := s
    simp only at h0
    subst h0
    have hc : ca = [] := by
      cases ca with
      | nil => rfl
      | cons p r => have := f.ca p (by simp); simp at this
    subst hc
    exact ⟨_, .give ha⟩
  · rcases List.mem_append.mp h with h | h
    · rcases List.mem_append.mp h with h | h
      · obtain ⟨⟨t, i⟩, hq, hm⟩ := List.mem_flatMap.mp h
        have hq' := List.mem_zipIdx' hq
        obtain ⟨hi, ht⟩ := hq'
        unfold thMoves at hm
        obtain ⟨w, hw, hm⟩ := List.mem_flatMap.mp hm
        obtain ⟨a, ha, rfl⟩ := List.mem_map.mp hm
        simp only at hw
        unfold words at hw
        split at hw
        · rename_i x ex
          split at hw
          · rename_i e1
            rw [List.mem_singleton.mp hw]
            exact ⟨_, .call hi ha (by rw [← ht, ex, e1])⟩
          · split at hw
            · rename_i e1
              rcases List.mem_cons.mp hw with q | q
              · rw [q]; exact ⟨_, .left hi ha (by rw [← ht, ex, e1])⟩
              · rw [List.mem_singleton.mp q]; exact ⟨_, .right hi ha (by rw [← ht, ex, e1])⟩
            · cases hw
        · cases hw
      · obtain ⟨⟨c, i⟩, hq, hm⟩ := List.mem_flatMap.mp h
        have hq' := List.mem_zipIdx' hq
        obtain ⟨hi, hc⟩ := hq'
        unfold caMoves at hm
        split at hm
        · cases hm
        · rename_i hb
          obtain ⟨a, ha, rfl⟩ := List.mem_map.mp hm
          simp only at hb ⊢
          exact ⟨_, .answer hi (f.ca _ (List.getElem_mem hi)) ha (by rw [← hc]; simpa using hb)⟩
    · obtain ⟨i, hi, rfl⟩ := List.mem_map.mp h
      exact ⟨_, .use (List.mem_range.mp hi)⟩
end K02

end
section
namespace K02
open PySem PySem.Spec PyProof.Rows L2 DL LamX
theorem run_cnt {μ : Type} {N : Nat} : ∀ {l : List μ} {c : Nat}, c + l.length ≤ N → RunR (fun c (_ : μ) c' => c < N ∧ c' = c + 1) c l (c + l.length)
  | [], c, _ => .nil
  | x :: l, c, h => by
    rw [List.length_cons] at h ⊢
    have e : c + (l.length + 1) = (c + 1) + l.length := by omega
    rw [e]
    exact .cons ⟨by omega, rfl⟩ (run_cnt (by omega))
theorem shp_of {z : Nat} {a : At} (h : a ∈ shL z) : Shp a := by
  unfold shL at h
  rcases List.mem_append.mp h with h | h
  · obtain ⟨i, _, rfl⟩ := List.mem_map.mp h
    exact .inl ⟨i, rfl⟩
  · rcases List.mem_cons.mp h with h | h
    · exact .inr (.inl h)
    · exact .inr (.inr (List.mem_singleton.mp h))
abbrev RunZ (z : Nat) (ms : List Mv) (p : Nat × St) : Prop := Run (· ∈ shL z) (0, ⟨[], []⟩) ms p
theorem fine0 : Fine ⟨[], []⟩ 0 := ⟨by simp, by simp, by simp, by simp⟩
theorem runz_shp {z : Nat} {ms : List Mv} {p : Nat × St} (r : RunZ z ms p) : ∀ t ∈ p.2.th, Shp t.sh := fun t ht => shp_of (run_ok r (by simp) t ht)
theorem runz_fine {z : Nat} {ms : List Mv} {p : Nat × St} (r : RunZ z ms p) : Fine p.2 p.1 := run_fine r fine0
theorem Fine.mono {s : St} {n m : Nat} (f : Fine s n) (h : n ≤ m) : Fine s m := ⟨f.g, f.ca, Nat.le_trans f.n1 h, Nat.le_trans f.n2 h⟩
theorem e_couldA {z : Nat} (hz : z ≤ 10) {ms : List Mv} {p : Nat × St} (r : RunZ z ms p) (hp : p.1 ≤ 100) : semOf 2 12 [] D_law_could.1 [.fz (toldD z), .fz (.lst (ms.map Mv.d))] = .ok (.lst ((couldL (shL z) p.2).map Mv.d)) [none, none] := by
  cases ms with
  | nil =>
    cases r
    exact e_could0 z (by omega)
  | cons m ms => exact e_could hz r hp (runz_shp r) ((runz_fine r).mono hp)
theorem could_ne {z : Nat} {s : St} : (couldL (shL z) s) ≠ [] := by
  unfold couldL
  split
  · have := shL_len z
    intro h
    have h2 := congrArg List.length h
    simp at h2
    rw [h2] at this
    simp at this
  · rename_i h
    intro h2
    have h3 := (List.append_eq_nil_iff.mp h2).2
    have h4 := congrArg List.length h3
    simp at h4
    exact h h4
end K02

end
section
namespace K02
open PySem PySem.Spec PyProof.Rows L2 DL LamX
/-- draw: the script and how many were drawn -/
abbrev drT (ns : List Int) (k : Nat) : T := .lst [.scr ns, .int (k : Int)]
/-- a drawn move that can be made -/
theorem pick_could (ns : List Int) (hL : ns.length ≤ 63) {z : Nat} (hz : z ≤ 10) {ms : List Mv} {p : Nat × St} (r : RunZ z ms p) (hp : p.1 ≤ 100) (k : Nat) : ∃ m s', Can (· ∈ shL z) p.2 m s' ∧ semOf 2 0 [0] D_law_pick.1 [drT ns k, .fz (.lst ((couldL (shL z) p.2).map Mv.d))] = .ok (.fz m.d) [some (drT ns (k + 1)), none] := by
  have hne : 0 < ((couldL (shL z) p.2).map Mv.d).length := by rw [List.length_map]; exact List.length_pos_iff.mpr could_ne
  obtain ⟨i, h, e⟩ := e_pick ns k _ hL hne
  rw [List.length_map] at h
  have hm : (couldL (shL z) p.2)[i] ∈ couldL (shL z) p.2 := List.getElem_mem h
  obtain ⟨s', c⟩ := could_can (runz_fine r) hm
  refine ⟨_, s', c, ?_⟩
  rw [e, List.getElem_map]
theorem e_course (ns : List Int) (hL : ns.length ≤ 63) {z : Nat} (hz : z ≤ 10) (k n : Nat) (hn : n ≤ 90) : ∃ (k' : Nat) (ms : List Mv) (p : Nat × St), RunZ z ms p ∧ p.1 = n ∧ semOf 3 2 [0] D_law_course.1 [drT ns k, .fz (toldD z), .fz (.int (n : Int))] = .ok (.fz (.lst (ms.map Mv.d))) [some (drT ns k'), none, none] := by
  rw [show semOf 3 2 [0] D_law_course.1 [drT ns k, .fz (toldD z), .fz (.int (n : Int))] = _ from semOf_ok rfl]
  simp only [D_law_course]
  refine seq_step [eT (drT ns k), eD (toldD z), eI (n : Int), eT (.lst []), none] (P := fun o => ∃ (k' : Nat) (ms : List Mv) (p : Nat × St), RunZ z ms p ∧ p.1 = n ∧ fin [0] 3 o = FO.ok (.fz (.lst (ms.map Mv.d))) [some (drT ns k'), none, none]) (by simp -implicitDefEqProofs) ?_
  simp -implicitDefEqProofs only [rdz_s, rdz_z, upO_ok, b_ok, rng1_nat n (by omega), l_some, rngD]
  have run := run_cnt (N := 90) (l := List.range n) (c := 0) (by rw [List.length_range]; omega)
  rw [List.length_range, Nat.zero_add] at run
  refine seq_forR (fun c e => ∃ (k' : Nat) (ms : List Mv) (p : Nat × St) (x3 u4 : Option Ent), RunZ z ms p ∧ p.1 = c ∧ e = [eT (drT ns k'), eD (toldD z), eI (n : Int), x3, u4] ∧ IsL x3 (ms.map Mv.d)) (P := fun o => ∃ (k' : Nat) (ms : List Mv) (p : Nat × St), RunZ z ms p ∧ p.1 = n ∧ fin [0] 3 o = FO.ok (.fz (.lst (ms.map Mv.d))) [some (drT ns k'), none, none]) run ?_ ⟨k, [], (0, ⟨[], []⟩), _, _, .nil, rfl, rfl, .inl rfl⟩ ?_
  · rintro c i c' e ⟨hc, rfl⟩ ⟨k', ms, p, x3, u4, r, rfl, rfl, h3⟩
    obtain ⟨m, s', can, hpick⟩ := pick_could ns hL hz r (by omega) k'
    refine ⟨[eT (drT ns k'), eD (toldD z), eI (n : Int), x3, eI (0 + (i : Int))], [eT (drT ns (k' + 1)), eD (toldD z), eI (n : Int), eT (.lst ((ms ++ [m]).map Mv.d)), eI (0 + (i : Int))], rfl, ?_, ⟨k' + 1, ms ++ [m], (p.1 + 1, s'), _, _, r.snoc ⟨by omega, runz_fine r, can, rfl⟩, rfl, rfl, .inl rfl⟩⟩
    have e3 : rdz 3 [eT (drT ns k'), eD (toldD z), eI (n : Int), x3, eI (0 + (i : Int))] = .ok (.lst (ms.map Mv.d)) [eT (drT ns k'), eD (toldD z), eI (n : Int), eD (.lst (ms.map Mv.d)), eI (0 + (i : Int))] := by
      rcases h3 with rfl | rfl <;> simp -implicitDefEqProofs
    have ec := e_couldA hz r (by omega)
    have hl : ms.length = p.1 := by have := run_len r; simp at this; omega
    have ad : addf (.lst (ms.map Mv.d)) (.lst [m.d]) = some (.lst ((ms ++ [m]).map Mv.d)) := by
      rw [addf_lst _ _ (by simp; omega)]
      simp
    have ei : ∀ gs : DL.Env → Out (List D), gs [eT (drT ns k'), eD (toldD z), eI (n : Int), eD (.lst (ms.map Mv.d)), eI (0 + (i : Int))] = .ok [.lst ((couldL (shL z) p.2).map Mv.d)] [eT (drT ns k'), eD (toldD z), eI (n : Int), eD (.lst (ms.map Mv.d)), eI (0 + (i : Int))] → callIO2 2 (semOf 2 0 [0] D_law_pick.1) 0 gs [eT (drT ns k'), eD (toldD z), eI (n : Int), eD (.lst (ms.map Mv.d)), eI (0 + (i : Int))] = .ok (.fz m.d) [eT (drT ns (k' + 1)), eD (toldD z), eI (n : Int), eD (.lst (ms.map Mv.d)), eI (0 + (i : Int))] := fun gs hg => by
      unfold callIO2 afterIO
      rw [hg]
      simp -implicitDefEqProofs [hpick]
    rw [e3, b_ok, ei _ (by simp -implicitDefEqProofs [ec, -List.map_map])]
    simp -implicitDefEqProofs [ad, -List.map_append]
  · rintro e ⟨k', ms, p, x3, u4, r, hp, rfl, h3⟩
    refine ⟨k', ms, p, r, hp, ?_⟩
    rcases h3 with rfl | rfl <;> (simp -implicitDefEqProofs; rfl)
end K02

end
section
namespace K02
open PySem PySem.Spec PyProof.Rows L2 DL LamX
/-! ### what a thing is -/
theorem e_is_row (d : D) (b : Bool) (h : isiF tt_list_tuple cc_list_tuple d = some b) : semOf 1 0 [] D_is_row.1 [.fz d] = .ok (.fz (.bl b)) [none] := by
  rw [show semOf 1 0 [] D_is_row.1 [.fz d] = _ from semOf_ok rfl]
  simp only [D_is_row]
  simp -implicitDefEqProofs [h]
theorem e_number_i (i : Int) : semOf 1 0 [] D_is_number.1 [.fz (.int i)] = .ok (.fz (.bl (decide (0 ≤ i)))) [none] := by
  rw [show semOf 1 0 [] D_is_number.1 [.fz (.int i)] = _ from semOf_ok rfl]
  simp only [D_is_number]
  simp -implicitDefEqProofs [show isiF tt_int cc_int (.int i) = some true from rfl, show isiF tt_bool cc_bool (.int i) = some false from rfl]
theorem e_number_o (d : D) (h : isiF tt_int cc_int d = some false) : semOf 1 0 [] D_is_number.1 [.fz d] = .ok (.fz (.bl false)) [none] := by
  rw [show semOf 1 0 [] D_is_number.1 [.fz d] = _ from semOf_ok rfl]
  simp only [D_is_number]
  simp -implicitDefEqProofs [h]
theorem e_below_i (i : Int) (z : Int) : semOf 2 0 [] D_is_below.1 [.fz (.int i), .fz (.int z)] = .ok (.fz (.bl (decide (0 ≤ i ∧ i < z)))) [none, none] := by
  rw [show semOf 2 0 [] D_is_below.1 [.fz (.int i), .fz (.int z)] = _ from semOf_ok rfl]
  simp only [D_is_below]
  simp -implicitDefEqProofs [e_number_i]
  by_cases h : 0 ≤ i <;> simp [h]
theorem e_below_o (d : D) (z : Int) (h : isiF tt_int cc_int d = some false) : semOf 2 0 [] D_is_below.1 [.fz d, .fz (.int z)] = .ok (.fz (.bl false)) [none, none] := by
  rw [show semOf 2 0 [] D_is_below.1 [.fz d, .fz (.int z)] = _ from semOf_ok rfl]
  simp only [D_is_below]
  simp -implicitDefEqProofs [e_number_o d h]
end K02

end
section
namespace K02
open PySem PySem.Spec PyProof.Rows L2 DL LamX
instance : Enc At := ⟨At.d, fun a => match a with
    | .n k => .int (k : Int)
    | .s x => .str x, fun a => match a with
    | .n _ => True
    | .s x => PyData.strOk x = true, 0, fun a => by cases a <;> rfl, fun a h => by cases a with
    | n k => rfl
    | s x => exact h, fun a => by cases a <;> exact Nat.le_refl _, fun a b => by
      cases a <;> cases b <;> simp [PyData.eqv]
      omega⟩
instance : NoNone At := ⟨fun a h => by cases a <;> cases h⟩
/-- what may stand where a move is looked for -/
abbrev Cd := Option (Tp (Option At))
def Mv.cd (m : Mv) : Cd := some ⟨some (.s m.w) :: m.xs.map some⟩
theorem cd_d (m : Mv) : Enc.d m.cd = m.d := by
  show D.tup _ = _
  simp only [Mv.d, List.map_cons, List.map_map]
  rfl
theorem cds_d (ms : List Mv) : ms.map Mv.d = (ms.map Mv.cd).map Enc.d := by
  rw [List.map_map]
  exact List.map_congr_left fun m _ => (cd_d m).symm
def isSh (z : Nat) : Option At → Bool
  | some (.n k) => decide (k < z)
  | some (.s x) => decide (x ∈ [Str.ofString "call", Str.ofString "pair"])
  | none => false
def shAt (s : St) (t : Nat) : Option At := (s.th[t]?).map Th.sh
def openAt (s : St) (c : Nat) : Bool := match s.ca[c]? with
  | some p => !p.2
  | none => false
def cw (z : Nat) (s : St) (w : Str) (r : List (Option At)) : Bool :=
  if s.th = [] then (match r with
    | [a] => decide (w = Str.ofString "give") && isSh z a
    | _ => false)
  else if w ∈ [Str.ofString "call", Str.ofString "left", Str.ofString "right"] then (match r with
    | [some (.n t), a] => isSh z a && decide (shAt s t = some (.s (if w = Str.ofString "call" then Str.ofString "call" else Str.ofString "pair")))
    | _ => false)
  else if w = Str.ofString "answer" then (match r with
    | [some (.n c), a] => isSh z a && openAt s c
    | _ => false)
  else (match r with
    | [some (.n t)] => decide (w = Str.ofString "use") && decide (t < s.th.length)
    | _ => false)
def canC (z : Nat) (s : St) : Cd → Bool
  | some ⟨some (.s w) :: r⟩ => cw z s w r
  | _ => false
/-! ### a value, a course -/
def orT : Option (Nat × Nat) → D
  | none => .tup []
  | some (a, b) => .tup [.int (a : Int), .int (b : Int)]
def vaD (t : Th) : D := .ins 2 [("shape", t.sh.d), ("giver", .int (t.g : Int)), ("origin", orT t.o)]
def vaL (s : St) : List D := s.th.map vaD
def coD (z : Nat) (ms : List Mv) (s : St) : D := .ins 3 [("size", .int (z : Int)), ("moves", .tup (ms.map Mv.d)), ("held", .lst (vaL s)), ("calls", .lst (caL s))]
def coT (z : Nat) (ms : List Mv) (s : St) : T := .ins 3 [("size", .fz (.int (z : Int))), ("moves", .fz (.tup (ms.map Mv.d))), ("held", .lst (vaL s)), ("calls", .lst (caL s))]
theorem er_co (z : Nat) (ms : List Mv) (s : St) : er (coT z ms s) = coD z ms s := by simp [coT, coD, er, erF]
theorem co_size (z : Nat) (ms : List Mv) (s : St) : attD cs_size (Str.ofString "size") (coD z ms s) = some (.int (z : Int)) := by kernel_rfl
theorem co_moves (z : Nat) (ms : List Mv) (s : St) : attD cs_moves (Str.ofString "moves") (coD z ms s) = some (.tup (ms.map Mv.d)) := by kernel_rfl
theorem co_held (z : Nat) (ms : List Mv) (s : St) : attD cs_held (Str.ofString "held") (coD z ms s) = some (.lst (vaL s)) := by kernel_rfl
theorem co_calls (z : Nat) (ms : List Mv) (s : St) : attD cs_calls (Str.ofString "calls") (coD z ms s) = some (.lst (caL s)) := by kernel_rfl
theorem va_shape (t : Th) : attD cs_shape (Str.ofString "shape") (vaD t) = some t.sh.d := by kernel_rfl
theorem va_giver (t : Th) : attD cs_giver (Str.ofString "giver") (vaD t) = some (.int (t.g : Int)) := by kernel_rfl
theorem va_origin (t : Th) : attD cs_origin (Str.ofString "origin") (vaD t) = some (orT t.o) := by kernel_rfl
/-! ### is_shape -/
theorem ii_at_str (a : Option At) : isiF tt_str cc_str (Enc.d a) = some (match a with
    | some (.s _) => true
    | _ => false) := by
  rcases a with _ | (k | x) <;> rfl
theorem ii_at_int (a : Option At) : isiF tt_int cc_int (Enc.d a) = some (match a with
    | some (.n _) => true
    | _ => false) := by
  rcases a with _ | (k | x) <;> rfl
theorem e_below_a (a : Option At) (n : Nat) : semOf 2 0 [] D_is_below.1 [.fz (Enc.d a), .fz (.int (n : Int))] = .ok (.fz (.bl (match a with
    | some (.n k) => decide (k < n)
    | _ => false))) [none, none] := by
  rcases a with _ | (k | x)
  · exact e_below_o _ _ rfl
  · rw [show (Enc.d (some (At.n k)) : D) = .int (k : Int) from rfl, e_below_i]
    simp
  · exact e_below_o _ _ rfl
theorem e_is_shape (z : Nat) (ms : List Mv) (s : St) (a : Option At) : semOf 2 0 [] D_Course_is_shape.1 [.fz (coD z ms s), .fz (Enc.d a)] = .ok (.fz (.bl (isSh z a))) [none, none] := by
  rw [show semOf 2 0 [] D_Course_is_shape.1 [.fz (coD z ms s), .fz (Enc.d a)] = _ from semOf_ok rfl]
  simp only [D_Course_is_shape]
  have hi : ∀ x, inf (.str x) (.tup [.str (Str.ofString "call"), .str (Str.ofString "pair")]) = some (.bl (decide (x ∈ [Str.ofString "call", Str.ofString "pair"]))) := fun x => str_in x [_, _]
  have e2 := e_below_a a z
  have e1 := ii_at_str a
  rcases a with _ | (k | x)
  · simp -implicitDefEqProofs [e1, e2, co_size, isSh]
  · simp -implicitDefEqProofs [e1, e2, co_size, isSh]
  · simp -implicitDefEqProofs [show (Enc.d (some (At.s x)) : D) = .str x from rfl, show isiF tt_str cc_str (.str x) = some true from rfl, hi, isSh]
end K02

end
section
namespace K02
open PySem PySem.Spec PyProof.Rows L2 DL LamX
def rowK (b : Bool) (ds : List D) : D := if b = true then .tup ds else .lst ds
def cdK (b : Bool) : Cd → D
  | none => .non
  | some t => rowK b (t.xs.map Enc.d)
theorem cdK_true (c : Cd) : cdK true c = Enc.d c := by
  cases c <;> rfl
@[simp] theorem ok_give : PyData.strOk (Str.ofString "give") = true := by decide +kernel
@[simp] theorem ok_call : PyData.strOk (Str.ofString "call") = true := by decide +kernel
@[simp] theorem ok_answer : PyData.strOk (Str.ofString "answer") = true := by decide +kernel
@[simp] theorem ok_left : PyData.strOk (Str.ofString "left") = true := by decide +kernel
@[simp] theorem ok_right : PyData.strOk (Str.ofString "right") = true := by decide +kernel
@[simp] theorem ok_use : PyData.strOk (Str.ofString "use") = true := by decide +kernel
@[simp] theorem ok_pair : PyData.strOk (Str.ofString "pair") = true := by decide +kernel
@[simp] theorem ok_zz : PyData.strOk (Str.ofString "zz") = true := by decide +kernel
theorem isr_row (b : Bool) (ds : List D) : semOf 1 0 [] D_is_row.1 [.fz (rowK b ds)] = .ok (.fz (.bl true)) [none] := by
  cases b <;> exact e_is_row _ _ rfl
theorem isr_non : semOf 1 0 [] D_is_row.1 [.fz .non] = .ok (.fz (.bl false)) [none] := e_is_row _ _ rfl
theorem len_row (b : Bool) (ds : List D) : lenf [rowK b ds] = some (.fz (.int ds.length)) := by
  cases b <;> simp [rowK]
theorem ix_row0 (b : Bool) (x : D) (ds : List D) : ixf (rowK b (x :: ds)) (.int 0) = some x := by
  cases b <;> simp [rowK]
theorem ix_row1 (b : Bool) (x y : D) (ds : List D) : ixf (rowK b (x :: y :: ds)) (.int 1) = some y := by
  cases b <;> simp [rowK]
theorem ix_row2 (b : Bool) (x y w : D) (ds : List D) : ixf (rowK b (x :: y :: w :: ds)) (.int 2) = some w := by
  cases b <;> simp [rowK]
theorem in_clr (x : Str) : inf (.str x) (.tup [.str (Str.ofString "call"), .str (Str.ofString "left"), .str (Str.ofString "right")]) = some (.bl (decide (x ∈ [Str.ofString "call", Str.ofString "left", Str.ofString "right"]))) := str_in x [_, _, _]
theorem th_ix (s : St) (t : Nat) (h : t < s.th.length) : ixf (.lst (vaL s)) (.int (t : Int)) = some (vaD s.th[t]) := by
  rw [ixf_lst _ t (by simpa [vaL] using h)]
  simp [vaL]
theorem ca_ix (s : St) (t : Nat) (h : t < s.ca.length) : ixf (.lst (caL s)) (.int (t : Int)) = some (caD s.ca[t]) := ix_ca h
theorem vaL_nil (s : St) : decide (vaL s = []) = decide (s.th = []) := by simp [vaL]
theorem pick_is_shape (z : Nat) (ms : List Mv) (s : St) : pick ms_is_shape (Str.ofString "is_shape") (.fz (coD z ms s)) = some (semOf 2 0 [] D_Course_is_shape.1) := by rfl
theorem enc_os (x : Str) : (Enc.d (some (At.s x)) : D) = .str x := rfl
theorem enc_on (k : Nat) : (Enc.d (some (At.n k)) : D) = .int (k : Int) := rfl
theorem enc_o : (Enc.d (none : Option At) : D) = .non := rfl
theorem isi_str_s (x : Str) : isiF tt_str cc_str (.str x) = some true := rfl
theorem isi_str_i (x : Int) : isiF tt_str cc_str (.int x) = some false := rfl
theorem isi_str_n : isiF tt_str cc_str .non = some false := rfl
theorem e_below_s (x : Str) (z : Int) : semOf 2 0 [] D_is_below.1 [.fz (.str x), .fz (.int z)] = .ok (.fz (.bl false)) [none, none] := e_below_o _ _ rfl
theorem vaL_len (s : St) : (vaL s).length = s.th.length := by simp [vaL]
theorem caL_len (s : St) : (caL s).length = s.ca.length := by simp [caL]
theorem sh_eq {a : At} (h : Shp a) (x : Str) (hx : PyData.strOk x = true) : orF eqf eqL a.d (.str x) = some (.bl (decide (a = .s x))) := by
  have h1 : Enc.fit a := by
    rcases h with ⟨k, rfl⟩ | rfl | rfl
    · exact trivial
    · exact ok_call
    · exact ok_pair
  exact orf_enc (α := At) eqL a (.s x) h1 hx
end K02

end
section
namespace K02
open PySem PySem.Spec PyProof.Rows L2 DL LamX
/-- the words of a candidate are texts -/
def fitW : Cd → Prop
  | some ⟨some (.s w) :: _⟩ => PyData.strOk w = true
  | _ => True
theorem e_can (b : Bool) (z : Nat) (ms : List Mv) (s : St) (c : Cd) (hf : fitW c) (hsh : ∀ t ∈ s.th, Shp t.sh) : semOf 2 1 [] D_Course_can.1 [.fz (coD z ms s), .fz (cdK b c)] = .ok (.fz (.bl (canC z s c))) [none, none] := by
  rw [show semOf 2 1 [] D_Course_can.1 [.fz (coD z ms s), .fz (cdK b c)] = _ from semOf_ok rfl]
  simp only [D_Course_can]
  rcases c with _ | ⟨_ | ⟨_ | (k | w), r⟩⟩
  · simp -implicitDefEqProofs [cdK, isr_non, canC]
  · simp -implicitDefEqProofs [cdK, isr_row, canC, len_row, int_eq]
  · simp -implicitDefEqProofs [cdK, isr_row, canC, len_row, int_eq, ix_row0, enc_o, isi_str_n]
  · simp -implicitDefEqProofs [cdK, isr_row, canC, len_row, int_eq, ix_row0, enc_on, isi_str_i]
  · have hw : PyData.strOk w = true := hf
    have eg := str_eq w (Str.ofString "give") hw (by simp)
    have ec := str_eq w (Str.ofString "call") hw (by simp)
    have ea := str_eq w (Str.ofString "answer") hw (by simp)
    have eu := str_eq w (Str.ofString "use") hw (by simp)
    have n0 : ∀ n : Nat, ¬ ((n : Int) + 1 + 1 + 1 + 1 = 0) := fun r' => by omega
    have n2 : ∀ n : Nat, ¬ ((n : Int) + 1 + 1 + 1 + 1 = 2) := fun r' => by omega
    have n3 : ∀ n : Nat, ¬ ((n : Int) + 1 + 1 + 1 + 1 = 3) := fun r' => by omega
    have m0 : ∀ n : Nat, ¬ ((n : Int) + 1 + 1 + 1 = 0) := fun n => by omega
    have m2 : ∀ n : Nat, ¬ ((n : Int) + 1 + 1 + 1 = 2) := fun n => by omega
    by_cases h0 : s.th = []
    · have h0' : vaL s = [] := by simp [vaL, h0]
      rcases r with _ | ⟨a, _ | ⟨a2, _ | ⟨a3, r⟩⟩⟩ <;>
      by_cases hg : w = Str.ofString "give" <;>
      simp -implicitDefEqProofs [cdK, isr_row, canC, cw, len_row, int_eq, ix_row0, ix_row1, enc_os, isi_str_s, co_held, eq_nil, h0', h0, eg, hg, e_is_shape, pick_is_shape, n0, n2]
    · have h0' : ¬ vaL s = [] := by simp [vaL, h0]
      have sim : ∀ (t : Nat) (h : t < s.th.length), shAt s t = some s.th[t].sh := fun t h => by simp [shAt, h]
      have sim0 : ∀ (t : Nat), ¬ t < s.th.length → shAt s t = none := fun t h => by simp [shAt]; omega
      have om : ∀ (t : Nat) (h : t < s.ca.length), openAt s t = !s.ca[t].2 := fun t h => by simp [openAt, h]
      have om0 : ∀ (t : Nat), ¬ t < s.ca.length → openAt s t = false := fun t h => by simp [openAt, List.getElem?_eq_none (Nat.le_of_not_lt h)]
      have shf : ∀ (t : Nat) (h : t < s.th.length) (x : Str), PyData.strOk x = true → orF eqf eqL s.th[t].sh.d (.str x) = some (.bl (decide (s.th[t].sh = .s x))) := fun t h x hx => sh_eq (hsh _ (List.getElem_mem h)) x hx
      by_cases hc : w ∈ [Str.ofString "call", Str.ofString "left", Str.ofString "right"]
      · rcases r with _ | ⟨a, _ | ⟨a2, _ | ⟨a3, r⟩⟩⟩
        · simp -implicitDefEqProofs [cdK, isr_row, canC, cw, len_row, int_eq, ix_row0, ix_row1, enc_os, isi_str_s, co_held, eq_nil, h0', h0, eg, hc, in_clr, n0, n2, n3, int_ne, -List.mem_cons]
        · simp -implicitDefEqProofs [cdK, isr_row, canC, cw, len_row, int_eq, ix_row0, ix_row1, enc_os, isi_str_s, co_held, eq_nil, h0', h0, eg, hc, in_clr, n0, n2, n3, int_ne, -List.mem_cons]
        · have eb := e_below_a a s.th.length
          rcases a with _ | (t | x)
          · simp -implicitDefEqProofs [cdK, isr_row, canC, cw, len_row, int_eq, ix_row0, ix_row1, enc_os, isi_str_s, co_held, eq_nil, h0', h0, eg, hc, in_clr, n0, n2, n3, int_ne, -List.mem_cons, ix_row2, e_below_a, e_below_i, e_below_s, vaL_len, pick_is_shape, e_is_shape]
          · by_cases ht : t < s.th.length
            · by_cases hs : isSh z a2 = true
              · by_cases hw1 : w = Str.ofString "call"
                · subst hw1
                  simp -implicitDefEqProofs [cdK, isr_row, canC, cw, len_row, int_eq, ix_row0, ix_row1, enc_os, isi_str_s, co_held, eq_nil, h0', h0, eg, hc, in_clr, n0, n2, n3, int_ne, -List.mem_cons, ix_row2, e_below_a, e_below_i, e_below_s, vaL_len, pick_is_shape, e_is_shape, hs, ht, enc_on, th_ix s t ht, va_shape, shf t ht, sim t ht, ec]
                · simp -implicitDefEqProofs [cdK, isr_row, canC, cw, len_row, int_eq, ix_row0, ix_row1, enc_os, isi_str_s, co_held, eq_nil, h0', h0, eg, hc, in_clr, n0, n2, n3, int_ne, -List.mem_cons, ix_row2, e_below_a, e_below_i, e_below_s, vaL_len, pick_is_shape, e_is_shape, hs, ht, enc_on, th_ix s t ht, va_shape, shf t ht, sim t ht, ec, hw1]
              · simp -implicitDefEqProofs [cdK, isr_row, canC, cw, len_row, int_eq, ix_row0, ix_row1, enc_os, isi_str_s, co_held, eq_nil, h0', h0, eg, hc, in_clr, n0, n2, n3, int_ne, -List.mem_cons, ix_row2, e_below_a, e_below_i, e_below_s, vaL_len, pick_is_shape, e_is_shape, hs, ht]
            · simp -implicitDefEqProofs [cdK, isr_row, canC, cw, len_row, int_eq, ix_row0, ix_row1, enc_os, isi_str_s, co_held, eq_nil, h0', h0, eg, hc, in_clr, n0, n2, n3, int_ne, -List.mem_cons, ix_row2, e_below_a, e_below_i, e_below_s, vaL_len, pick_is_shape, e_is_shape, ht, sim0 t ht]
          · simp -implicitDefEqProofs [cdK, isr_row, canC, cw, len_row, int_eq, ix_row0, ix_row1, enc_os, isi_str_s, co_held, eq_nil, h0', h0, eg, hc, in_clr, n0, n2, n3, int_ne, -List.mem_cons, ix_row2, e_below_a, e_below_i, e_below_s, vaL_len, pick_is_shape, e_is_shape]
        · simp -implicitDefEqProofs [cdK, isr_row, canC, cw, len_row, int_eq, ix_row0, ix_row1, enc_os, isi_str_s, co_held, eq_nil, h0', h0, eg, hc, in_clr, n0, n2, n3, int_ne, -List.mem_cons]
      · by_cases hA : w = Str.ofString "answer"
        · subst hA
          rcases r with _ | ⟨a, _ | ⟨a2, _ | ⟨a3, r⟩⟩⟩
          · simp -implicitDefEqProofs [cdK, isr_row, canC, cw, len_row, int_eq, ix_row0, ix_row1, enc_os, isi_str_s, co_held, eq_nil, h0', h0, eg, hc, in_clr, n0, n2, n3, int_ne, -List.mem_cons]
          · simp -implicitDefEqProofs [cdK, isr_row, canC, cw, len_row, int_eq, ix_row0, ix_row1, enc_os, isi_str_s, co_held, eq_nil, h0', h0, eg, hc, in_clr, n0, n2, n3, int_ne, -List.mem_cons]
          · rcases a with _ | (t | x)
            · simp -implicitDefEqProofs [cdK, isr_row, canC, cw, len_row, int_eq, ix_row0, ix_row1, enc_os, isi_str_s, co_held, eq_nil, h0', h0, eg, hc, in_clr, n0, n2, n3, int_ne, -List.mem_cons, ix_row2, e_below_a, e_below_i, e_below_s, caL_len, co_calls, pick_is_shape, e_is_shape]
            · by_cases ht : t < s.ca.length
              · by_cases hs : isSh z a2 = true
                · simp -implicitDefEqProofs [cdK, isr_row, canC, cw, len_row, int_eq, ix_row0, ix_row1, enc_os, isi_str_s, co_held, eq_nil, h0', h0, eg, hc, in_clr, n0, n2, n3, int_ne, -List.mem_cons, ix_row2, e_below_a, e_below_i, e_below_s, caL_len, co_calls, pick_is_shape, e_is_shape, hs, ht, enc_on, ix_ca ht, caD, om t ht]
                · simp -implicitDefEqProofs [cdK, isr_row, canC, cw, len_row, int_eq, ix_row0, ix_row1, enc_os, isi_str_s, co_held, eq_nil, h0', h0, eg, hc, in_clr, n0, n2, n3, int_ne, -List.mem_cons, ix_row2, e_below_a, e_below_i, e_below_s, caL_len, co_calls, pick_is_shape, e_is_shape, hs, ht, om t ht]
              · simp -implicitDefEqProofs [cdK, isr_row, canC, cw, len_row, int_eq, ix_row0, ix_row1, enc_os, isi_str_s, co_held, eq_nil, h0', h0, eg, hc, in_clr, n0, n2, n3, int_ne, -List.mem_cons, ix_row2, e_below_a, e_below_i, e_below_s, caL_len, co_calls, pick_is_shape, e_is_shape, ht, om0 t ht]
            · simp -implicitDefEqProofs [cdK, isr_row, canC, cw, len_row, int_eq, ix_row0, ix_row1, enc_os, isi_str_s, co_held, eq_nil, h0', h0, eg, hc, in_clr, n0, n2, n3, int_ne, -List.mem_cons, ix_row2, e_below_a, e_below_i, e_below_s, caL_len, co_calls, pick_is_shape, e_is_shape]
          · simp -implicitDefEqProofs [cdK, isr_row, canC, cw, len_row, int_eq, ix_row0, ix_row1, enc_os, isi_str_s, co_held, eq_nil, h0', h0, eg, hc, in_clr, n0, n2, n3, int_ne, -List.mem_cons]
        · by_cases hU : w = Str.ofString "use"
          · subst hU
            rcases r with _ | ⟨a, _ | ⟨a2, r⟩⟩
            · simp -implicitDefEqProofs [cdK, isr_row, canC, cw, len_row, int_eq, ix_row0, ix_row1, enc_os, isi_str_s, co_held, eq_nil, h0', h0, eg, hc, in_clr, n0, n2, n3, int_ne, -List.mem_cons]
            · rcases a with _ | (t | x) <;> simp -implicitDefEqProofs [hA, cdK, isr_row, canC, cw, len_row, int_eq, ix_row0, ix_row1, enc_os, isi_str_s, co_held, eq_nil, h0', h0, eg, hc, in_clr, n0, n2, n3, int_ne, -List.mem_cons, e_below_a, e_below_i, e_below_s, vaL_len]
            · simp -implicitDefEqProofs [hA, cdK, isr_row, canC, cw, len_row, int_eq, ix_row0, ix_row1, enc_os, isi_str_s, co_held, eq_nil, h0', h0, eg, hc, in_clr, n0, n2, n3, int_ne, -List.mem_cons, m0, m2]
          · rcases r with _ | ⟨a, _ | ⟨a2, r⟩⟩
            · simp -implicitDefEqProofs [hA, cdK, isr_row, canC, cw, len_row, int_eq, ix_row0, ix_row1, enc_os, isi_str_s, co_held, eq_nil, h0', h0, eg, hc, in_clr, n0, n2, n3, int_ne, -List.mem_cons, ea, eu, hA, hU, m0, m2]
            · rcases a with _ | (t | x) <;> simp -implicitDefEqProofs [hA, hA, cdK, isr_row, canC, cw, len_row, int_eq, ix_row0, ix_row1, enc_os, isi_str_s, co_held, eq_nil, h0', h0, eg, hc, in_clr, n0, n2, n3, int_ne, -List.mem_cons, ea, eu, hA, hU, m0, m2]
            · simp -implicitDefEqProofs [hA, cdK, isr_row, canC, cw, len_row, int_eq, ix_row0, ix_row1, enc_os, isi_str_s, co_held, eq_nil, h0', h0, eg, hc, in_clr, n0, n2, n3, int_ne, -List.mem_cons, ea, eu, hA, hU, m0, m2]
end K02

end
section
namespace K02
open PySem PySem.Spec PyProof.Rows L2 DL LamX
theorem isSh_mem {z : Nat} {a : Option At} : isSh z a = true ↔ ∃ x, a = some x ∧ x ∈ shL z := by
  unfold shL
  rcases a with _ | (k | x)
  · simp [isSh]
  · simp [isSh]
  · simp [isSh]
@[simp] theorem d_give_call : (Str.ofString "give" = Str.ofString "call") = False := eq_false (by decide +kernel)
@[simp] theorem d_give_left : (Str.ofString "give" = Str.ofString "left") = False := eq_false (by decide +kernel)
@[simp] theorem d_give_right : (Str.ofString "give" = Str.ofString "right") = False := eq_false (by decide +kernel)
@[simp] theorem d_left_call : (Str.ofString "left" = Str.ofString "call") = False := eq_false (by decide +kernel)
@[simp] theorem d_right_call : (Str.ofString "right" = Str.ofString "call") = False := eq_false (by decide +kernel)
@[simp] theorem d_right_left : (Str.ofString "right" = Str.ofString "left") = False := eq_false (by decide +kernel)
@[simp] theorem d_left_right : (Str.ofString "left" = Str.ofString "right") = False := eq_false (by decide +kernel)
@[simp] theorem d_answer_call : (Str.ofString "answer" = Str.ofString "call") = False := eq_false (by decide +kernel)
@[simp] theorem d_answer_left : (Str.ofString "answer" = Str.ofString "left") = False := eq_false (by decide +kernel)
@[simp] theorem d_answer_right : (Str.ofString "answer" = Str.ofString "right") = False := eq_false (by decide +kernel)
@[simp] theorem d_use_call : (Str.ofString "use" = Str.ofString "call") = False := eq_false (by decide +kernel)
@[simp] theorem d_use_left : (Str.ofString "use" = Str.ofString "left") = False := eq_false (by decide +kernel)
@[simp] theorem d_use_right : (Str.ofString "use" = Str.ofString "right") = False := eq_false (by decide +kernel)
@[simp] theorem d_use_answer : (Str.ofString "use" = Str.ofString "answer") = False := eq_false (by decide +kernel)
@[simp] theorem d_pair_call : (Str.ofString "pair" = Str.ofString "call") = False := eq_false (by decide +kernel)
theorem can_of {z : Nat} {s : St} {c : Cd} (f : ∀ p ∈ s.ca, p.1 < s.th.length) (h : canC z s c = true) : ∃ m s', c = m.cd ∧ Can (· ∈ shL z) s m s' := by
  rcases c with _ | ⟨_ | ⟨_ | (k | w), r⟩⟩ <;> simp only [canC] at h <;> try (cases h; done)
  unfold cw at h
  split at h
  · rename_i h0
    split at h
    · rename_i a
      simp only [Bool.and_eq_true, decide_eq_true_eq] at h
      obtain ⟨rfl, h2⟩ := h
      obtain ⟨x, rfl, h3⟩ := isSh_mem.mp h2
      obtain ⟨th, ca⟩ := s
      simp only at h0
      subst h0
      have hc : ca = [] := by
        cases ca with
        | nil => rfl
        | cons p r => have := f p (by simp); simp at this
      subst hc
      exact ⟨⟨"give", [x]⟩, _, rfl, .give h3⟩
    · cases h
  · split at h
    · rename_i h0 hw
      split at h
      · rename_i t a
        simp only [Bool.and_eq_true, decide_eq_true_eq] at h
        obtain ⟨h2, hs⟩ := h
        obtain ⟨x, rfl, h3⟩ := isSh_mem.mp h2
        have ht : t < s.th.length := by
          by_cases q : t < s.th.length
          · exact q
          · rw [show shAt s t = none by simp [shAt]; omega] at hs; cases hs
        rw [show shAt s t = some s.th[t].sh by simp [shAt, ht]] at hs
        simp only [List.mem_cons, List.not_mem_nil, or_false] at hw
        rcases hw with rfl | rfl | rfl
        · simp only [if_true, Option.some.injEq] at hs
          exact ⟨⟨"call", [.n t, x]⟩, _, rfl, .call ht h3 hs⟩
        · simp only [d_left_call, if_false, Option.some.injEq] at hs
          exact ⟨⟨"left", [.n t, x]⟩, _, rfl, .left ht h3 hs⟩
        · simp only [d_right_call, if_false, Option.some.injEq] at hs
          exact ⟨⟨"right", [.n t, x]⟩, _, rfl, .right ht h3 hs⟩
      · cases h
    · split at h
      · rename_i hw
        subst hw
        split at h
        · rename_i c a
          simp only [Bool.and_eq_true] at h
          obtain ⟨h2, hs⟩ := h
          obtain ⟨x, rfl, h3⟩ := isSh_mem.mp h2
          have ht : c < s.ca.length := by
            by_cases q : c < s.ca.length
            · exact q
            · rw [show openAt s c = false by simp [openAt, List.getElem?_eq_none (Nat.le_of_not_lt q)]] at hs; cases hs
          rw [show openAt s c = !s.ca[c].2 by simp [openAt, ht]] at hs
          exact ⟨⟨"answer", [.n c, x]⟩, _, rfl, .answer ht (f _ (List.getElem_mem ht)) h3 (by simpa using hs)⟩
        · cases h
      · split at h
        · rename_i t
          simp only [Bool.and_eq_true, decide_eq_true_eq] at h
          obtain ⟨rfl, h2⟩ := h
          exact ⟨⟨"use", [.n t]⟩, _, rfl, .use h2⟩
        · cases h
theorem of_can {z : Nat} {s s' : St} {m : Mv} (c : Can (· ∈ shL z) s m s') : canC z s m.cd = true := by
  have sm : ∀ x, x ∈ shL z → isSh z (some x) = true := fun x h => isSh_mem.mpr ⟨x, rfl, h⟩
  cases c with
  | give h => simp [Mv.cd, canC, cw, sm _ h]
  | @call _ t a h ha hs =>
    have h0 : ¬ s.th = [] := fun z => by rw [z] at h; cases h
    simp [Mv.cd, canC, cw, sm _ ha, h0, shAt, h, hs]
  | left h ha hs =>
    have h0 : ¬ s.th = [] := fun z => by rw [z] at h; cases h
    simp [Mv.cd, canC, cw, sm _ ha, h0, shAt, h, hs]
  | right h ha hs =>
    have h0 : ¬ s.th = [] := fun z => by rw [z] at h; cases h
    simp [Mv.cd, canC, cw, sm _ ha, h0, shAt, h, hs]
  | answer h h2 ha hs =>
    have h0 : ¬ s.th = [] := fun z => by rw [z] at h2; cases h2
    simp [Mv.cd, canC, cw, sm _ ha, h0, openAt, h, hs]
  | use h =>
    have h0 : ¬ s.th = [] := fun z => by rw [z] at h; cases h
    simp [Mv.cd, canC, cw, h0, h]
theorem can_could {z : Nat} {s s' : St} {m : Mv} (c : Can (· ∈ shL z) s m s') : m ∈ couldL (shL z) s := by
  unfold couldL
  cases c with
  | @give a h => rw [if_pos rfl]; exact List.mem_map.mpr ⟨a, h, rfl⟩
  | @call _ t a h ha hs =>
    have h0 : ¬ s.th = [] := fun z => by rw [z] at h; cases h
    rw [if_neg h0]
    refine List.mem_append_left _ (List.mem_append_left _ (List.mem_flatMap.mpr ⟨(s.th[t], t), List.mem_zipIdx_iff_getElem?.mpr (by simp [h]), ?_⟩))
    simp only [thMoves, hs, words]
    exact List.mem_flatMap.mpr ⟨"call", by simp, List.mem_map.mpr ⟨a, ha, rfl⟩⟩
  | @left _ t a h ha hs =>
    have h0 : ¬ s.th = [] := fun z => by rw [z] at h; cases h
    rw [if_neg h0]
    refine List.mem_append_left _ (List.mem_append_left _ (List.mem_flatMap.mpr ⟨(s.th[t], t), List.mem_zipIdx_iff_getElem?.mpr (by simp [h]), ?_⟩))
    simp only [thMoves, hs, words_pair]
    exact List.mem_flatMap.mpr ⟨"left", by simp, List.mem_map.mpr ⟨a, ha, rfl⟩⟩
  | @right _ t a h ha hs =>
    have h0 : ¬ s.th = [] := fun z => by rw [z] at h; cases h
    rw [if_neg h0]
    refine List.mem_append_left _ (List.mem_append_left _ (List.mem_flatMap.mpr ⟨(s.th[t], t), List.mem_zipIdx_iff_getElem?.mpr (by simp [h]), ?_⟩))
    simp only [thMoves, hs, words_pair]
    exact List.mem_flatMap.mpr ⟨"right", by simp, List.mem_map.mpr ⟨a, ha, rfl⟩⟩
  | @answer _ c a h h2 ha hs =>
    have h0 : ¬ s.th = [] := fun z => by rw [z] at h2; cases h2
    rw [if_neg h0]
    refine List.mem_append_left _ (List.mem_append_right _ (List.mem_flatMap.mpr ⟨(s.ca[c], c), List.mem_zipIdx_iff_getElem?.mpr (by simp [h]), ?_⟩))
    simp only [caMoves, hs]
    exact List.mem_map.mpr ⟨a, ha, rfl⟩
  | @use _ t h =>
    have h0 : ¬ s.th = [] := fun z => by rw [z] at h; cases h
    rw [if_neg h0]
    exact List.mem_append_right _ (List.mem_map.mpr ⟨t, List.mem_range.mpr h, rfl⟩)
theorem cd_inj {m n : Mv} (h : m.cd = n.cd) : m = n := by
  obtain ⟨w, xs⟩ := m
  obtain ⟨v, ys⟩ := n
  simp only [Mv.cd, Option.some.injEq, Tp.mk.injEq, List.cons.injEq, At.s.injEq] at h
  obtain ⟨rfl, h2⟩ := h
  have : xs = ys := (List.map_inj_right (fun _ _ e => Option.some.inj e)).mp h2
  rw [this]
theorem mem_could {z : Nat} {s : St} {n : Nat} {c : Cd} (f : Fine s n) : c ∈ (couldL (shL z) s).map Mv.cd ↔ canC z s c = true := by
  constructor
  · intro h
    obtain ⟨m, h1, rfl⟩ := List.mem_map.mp h
    obtain ⟨s', h2⟩ := could_can f h1
    exact of_can h2
  · intro h
    obtain ⟨m, s', rfl, h2⟩ := can_of f.ca h
    exact List.mem_map.mpr ⟨m, can_could h2, rfl⟩
end K02

end
section
namespace K02
open PySem PySem.Spec PyProof.Rows L2 DL LamX
/-! ### a course as a thing of one's own -/
def coG (z : Int) (m h c : List D) : T := .ins 3 [("size", .fz (.int z)), ("moves", .fz (.tup m)), ("held", .lst h), ("calls", .lst c)]
def coGD (z : Int) (m h c : List D) : D := .ins 3 [("size", .int z), ("moves", .tup m), ("held", .lst h), ("calls", .lst c)]
theorem coT_eq (z : Nat) (ms : List Mv) (s : St) : coT z ms s = coG z (ms.map Mv.d) (vaL s) (caL s) := rfl
theorem coD_eq (z : Nat) (ms : List Mv) (s : St) : coD z ms s = coGD z (ms.map Mv.d) (vaL s) (caL s) := rfl
section
variable (z : Int) (m h c x : List D) (e : DL.Env)
@[simp] theorem see_co : seeE1 (some (.own (coG z m h c))) = eD (coGD z m h c) := by
  simp [seeE1, coG, coGD, nodic, nodicF, er, erF]
@[simp] theorem see_bco : seeE1 (some (.bor (coG z m h c))) = eD (coGD z m h c) := by
  simp [seeE1, coG, coGD, nodic, nodicF, er, erF]
@[simp] theorem er_coG : er (coG z m h c) = coGD z m h c := by simp [coG, coGD, er, erF]
@[simp] theorem rdz_co : rdz 0 (some (.own (coG z m h c)) :: e) = .ok (coGD z m h c) (some (.own (.fz (coGD z m h c))) :: e) := by
  show Out.ok (er (coG z m h c)) (some (.own (.fz (er (coG z m h c)))) :: e) = _
  rw [er_coG]
theorem cg_size : attD cs_size (Str.ofString "size") (coGD z m h c) = some (.int z) := by kernel_rfl
theorem cg_moves : attD cs_moves (Str.ofString "moves") (coGD z m h c) = some (.tup m) := by kernel_rfl
theorem cg_held : attD cs_held (Str.ofString "held") (coGD z m h c) = some (.lst h) := by kernel_rfl
theorem cg_calls : attD cs_calls (Str.ofString "calls") (coGD z m h c) = some (.lst c) := by kernel_rfl
theorem rdo_held : rdo 0 [(cs_held, Str.ofString "held")] (eT (coG z m h c) :: e) = some (.lst h) := by kernel_rfl
theorem rdo_calls : rdo 0 [(cs_calls, Str.ofString "calls")] (eT (coG z m h c) :: e) = some (.lst c) := by kernel_rfl
theorem put_held : putG 0 [(cs_held, Str.ofString "held")] (.lst x) (eT (coG z m h c) :: e) = some (eT (coG z m x c) :: e) := by kernel_rfl
theorem put_calls : putG 0 [(cs_calls, Str.ofString "calls")] (.lst x) (eT (coG z m h c) :: e) = some (eT (coG z m h x) :: e) := by kernel_rfl
theorem rdf_moves : rdf 0 [(cs_moves, Str.ofString "moves")] (eT (coG z m h c) :: e) = .ok (.tup m) (eT (coG z m h c) :: e) := by kernel_rfl
theorem fld_moves (go : DL.Env → Out T) (env : DL.Env) (hg : go env = .ok (.fz (.tup x)) (eT (coG z m h c) :: e)) : fldG 0 [] cs_moves (Str.ofString "moves") go env = .ok .nx (eT (coG z x h c) :: e) := by
  unfold fldG
  rw [hg, b_ok]
  kernel_rfl
end
theorem e_value (a b c : D) : semOf 4 0 [0] D_Value___init__.1 [.ins 2 [], .fz a, .fz b, .fz c] = .ok (.fz .non) [some (.ins 2 [("shape", .fz a), ("giver", .fz b), ("origin", .fz c)]), none, none, none] := by
  kernel_rfl
theorem mk_value (gs : DL.Env → Out (List D)) (env e : DL.Env) (a b c : D) (h : gs env = .ok [a, b, c] e) : callC 4 2 (semOf 4 0 [0] D_Value___init__.1) gs env = .ok (.ins 2 [("shape", .fz a), ("giver", .fz b), ("origin", .fz c)]) e := by
  unfold callC afterMk
  rw [h, b_ok]
  simp only [fo_eq, List.map_cons, List.map_nil, List.length_cons, List.length_nil, Nat.zero_add, Nat.reduceAdd, if_true, e_value]
  rfl
theorem callC_eq (n c : Nat) (sem : List T → FO) (gs : DL.Env → Out (List D)) (env : DL.Env) : callC n c sem gs env = (gs env).bind fun ds e => afterMk n c sem e ds := rfl
theorem aft_value (e : DL.Env) (a b c : D) : afterMk 4 2 (semOf 4 0 [0] D_Value___init__.1) e [a, b, c] = .ok (.ins 2 [("shape", .fz a), ("giver", .fz b), ("origin", .fz c)]) e := by
  unfold afterMk
  simp only [fo_eq, List.map_cons, List.map_nil, List.length_cons, List.length_nil, Nat.zero_add, Nat.reduceAdd, if_true, e_value]
  rfl
theorem er_value (a b c : D) : er (.ins 2 [("shape", .fz a), ("giver", .fz b), ("origin", .fz c)]) = .ins 2 [("shape", a), ("giver", b), ("origin", c)] := by simp [er, erF]
theorem pick_can (z : Int) (m h c : List D) : pick ms_can (Str.ofString "can") (.fz (coGD z m h c)) = some (semOf 2 1 [] D_Course_can.1) := by rfl
end K02

end
section
namespace K02
open PySem PySem.Spec PyProof.Rows L2 DL LamX
def pkTK (env : DL.Env) : Out Bool → Out Bool
  | .ok d _ => .ok d env
  | _ => .fail
theorem pkT_eq (g : DL.Env → Out Bool) (env : DL.Env) : pkT g env = pkTK env (g (seeE env)) := by
  unfold pkT pkTK
  cases g (seeE env) <;> rfl
@[simp] theorem pkTK_ok (env e : DL.Env) (b : Bool) : pkTK env (.ok b e) = .ok b env := rfl
theorem e_make_bad (b : Bool) (z : Nat) (ms : List Mv) (s : St) (c : Cd) (hf : fitW c) (hsh : ∀ t ∈ s.th, Shp t.sh) (hc : canC z s c = false) : semOf 2 4 [0] D_Course_make.1 [coT z ms s, .fz (cdK b c)] = .exc ⟨1, [("number", .int (ms.length : Int))]⟩ := by
  rw [show semOf 2 4 [0] D_Course_make.1 [coT z ms s, .fz (cdK b c)] = _ from semOf_ok rfl]
  simp only [D_Course_make]
  have h1 := e_can b z ms s c hf hsh
  rw [hc, coD_eq] at h1
  rw [coT_eq]
  simp -implicitDefEqProofs [pkT_eq, pick_can, h1, cg_moves, raiG]
/-- what make gives back -/
def retOf (m : Mv) (s' : St) : D := match m.xs with
  | [.n t] => if m.w = Str.ofString "use" then .int (t : Int) else .int ((s'.th.length : Int) - 1)
  | _ => .int ((s'.th.length : Int) - 1)
theorem e_make (b : Bool) (z : Nat) (ms : List Mv) (s s' : St) (m : Mv) (hsh : ∀ t ∈ s.th, Shp t.sh) (hm : Can (· ∈ shL z) s m s') (hl : ms.length < 402) (hn : Fine s 402) : semOf 2 4 [0] D_Course_make.1 [coT z ms s, .fz (cdK b m.cd)] = .ok (.fz (retOf m s')) [some (coT z (ms ++ [m]) s'), none] := by
  have hw : fitW m.cd := by cases hm <;> simp [fitW, Mv.cd]
  rw [show semOf 2 4 [0] D_Course_make.1 [coT z ms s, .fz (cdK b m.cd)] = _ from semOf_ok rfl]
  simp only [D_Course_make]
  have h1 := e_can b z ms s m.cd hw hsh
  rw [of_can hm, coD_eq] at h1
  rw [coT_eq, coT_eq]
  have h402 : ¬ ((ms.length : Int) = 402) := by omega
  have htu : tuplef [cdK b m.cd] = some (.fz m.d) := by
    rw [← cd_d m]
    cases b <;> rfl
  refine seq_step (P := fun o => fin [0] 2 o = _) [eT (coG z (ms.map Mv.d) (vaL s) (caL s)), eD (cdK b m.cd), none, none, none, none] ?_ ?_
  · simp -implicitDefEqProofs [pkT_eq, pick_can, h1, cg_moves, raiG, int_eq, h402]
  refine seq_step (P := fun o => fin [0] 2 o = _) [eT (coG z (ms.map Mv.d) (vaL s) (caL s)), eD (cdK b m.cd), eD (.str m.w), none, none, none] ?_ ?_
  · simp -implicitDefEqProofs [Mv.cd, cdK, ix_row0, enc_os]
  refine seq_step (P := fun o => fin [0] 2 o = _) [eT (coG z ((ms ++ [m]).map Mv.d) (vaL s) (caL s)), eD (cdK b m.cd), eD (.str m.w), none, none, none] ?_ ?_
  · refine fld_moves (z : Int) (ms.map Mv.d) (vaL s) (caL s) ((ms ++ [m]).map Mv.d) _ _ _ ?_
    simp -implicitDefEqProofs [rdf_moves, htu, show ∀ x, rowD (.tup x) = some x from fun _ => rfl]
    rw [small_le (by simp; omega)]
    simp -implicitDefEqProofs []
  have g1 := hn.n1
  have g2 := hn.n2
  have lt1 : (vaL s).length < sizeLine := by rw [vaL_len]; exact Nat.lt_of_le_of_lt g1 (by decide)
  have lt2 : (caL s).length < sizeLine := by rw [caL_len]; exact Nat.lt_of_le_of_lt g2 (by decide)
  generalize hM : (ms ++ [m]).map Mv.d = M
  have hz : (0 : Nat) < sizeLine := by decide
  have snoc : ∀ (x : Th) (q : List (Nat × Bool)), vaL ⟨s.th ++ [x], q⟩ = vaL s ++ [vaD x] := fun x q => by simp [vaL]
  cases hm with
  | @give a ha =>
    have hz : (0 : Nat) < sizeLine := by decide
    simp -implicitDefEqProofs [rdo_held, put_held, callC_eq, aft_value, er_value, Mv.cd, cdK, ix_row0, ix_row1, enc_os, pk_c, cg_held, vaL, caL, hz, retOf]
    refine ⟨?_, rfl⟩
    cases a with
    | n k =>
      show D.int 0 = if Str.ofString "give" = Str.ofString "use" then D.int k else D.int 0
      rw [if_neg (by decide +kernel)]
    | s x => rfl
  | @call _ t a h ha hs =>
    have hg := hn.g _ (List.getElem_mem h)
    have e1 : (1 : Int) - (s.th[t].g : Int) = ((1 - s.th[t].g : Nat) : Int) := by omega
    simp -implicitDefEqProofs [rdo_held, put_held, rdo_calls, put_calls, callC_eq, aft_value, er_value, Mv.cd, cdK, ix_row0, ix_row1, ix_row2, enc_os, enc_on, pk_c, cg_held, cg_calls, lt1, lt2, th_ix s t h, va_giver, retOf, e1]
    refine ⟨by rw [vaL_len], ?_⟩
    rw [snoc, caL_snoc]
    rfl
  | @left _ t a h ha hs =>
    simp -implicitDefEqProofs [rdo_held, put_held, rdo_calls, put_calls, callC_eq, aft_value, er_value, Mv.cd, cdK, ix_row0, ix_row1, ix_row2, enc_os, enc_on, pk_c, cg_held, cg_calls, lt1, lt2, th_ix s t h, va_giver, retOf]
    refine ⟨by rw [vaL_len], ?_⟩
    rw [snoc, caL_same]
    rfl
  | @right _ t a h ha hs =>
    simp -implicitDefEqProofs [rdo_held, put_held, rdo_calls, put_calls, callC_eq, aft_value, er_value, Mv.cd, cdK, ix_row0, ix_row1, ix_row2, enc_os, enc_on, pk_c, cg_held, cg_calls, lt1, lt2, th_ix s t h, va_giver, retOf]
    refine ⟨by rw [vaL_len], ?_⟩
    rw [snoc, caL_same]
    rfl
  | @answer _ c a h h2 ha hs =>
    have ec : ixN (caL s).length (c : Int) = some c := by
      rw [caL_len]
      unfold ixN
      simp [h]
    simp -implicitDefEqProofs [setG, ec, appG, rdo_held, put_held, rdo_calls, put_calls, callC_eq, aft_value, er_value, Mv.cd, cdK, ix_row0, ix_row1, ix_row2, enc_os, enc_on, pk_c, cg_held, cg_calls, lt1, lt2, ix_ca h, th_ix s _ h2, caD, va_giver, retOf]
    refine ⟨by rw [vaL_len], ?_⟩
    rw [snoc, show caL ⟨s.th ++ [⟨a, s.th[s.ca[c].1].g, some (s.ca[c].1, 2)⟩], s.ca.set c (s.ca[c].1, true)⟩ = (caL s).set c (caD (s.ca[c].1, true)) by simp [caL]]
    rfl
  | @use _ t h =>
    simp -implicitDefEqProofs [Mv.cd, cdK, ix_row1, enc_os, enc_on, retOf]
    rfl
end K02

end
section
namespace K02
open PySem PySem.Spec PyProof.Rows L2 DL LamX
theorem comp_words (sh ws : List D) (i : Int) (a0 u2 x3 a5 u7 u8 : Option Ent) (hl : ws.length * sh.length ≤ sizeLine) :
    ∃ e', compG2 (fun env => (rdz 6 env).bind fun d e => lft (iterD d) e) (gtN 7) (fun e => Out.ok true e) (fun env => (rdz 1 env).bind fun d e => lft (iterD d) e) (gtN 2) (fun e => Out.ok true e)
      (fun env => ((rdz 7 env).bind fun x e => ((rdz 4 e).bind fun x e => ((rdz 2 e).bind fun x e => Out.ok [x] e).bind fun xs e => Out.ok (x :: xs) e).bind fun xs e => Out.ok (x :: xs) e).bind fun ds e => if small ds = true then Out.ok (D.tup ds) e else Out.fail) [7, 2] [2]
      [a0, some (.bor (.fz (.lst sh))), u2, x3, some (.bor (.fz (.int i))), a5, some (.bor (.fz (.tup ws))), u7, u8] = .ok (.lst (ws.flatMap fun w => sh.map fun d => .tup [w, .int i, d])) e' := by
  refine ⟨_, compG2_fm [a0, some (.bor (.fz (.lst sh))), u2, x3, some (.bor (.fz (.int i))), a5, some (.bor (.fz (.tup ws))), u7, u8] ws (fun w => sh.map fun d => .tup [w, .int i, d]) ?_ ?_ ?_⟩
  · simp -implicitDefEqProofs []
  · intro d hd acc ha
    refine ⟨[a0, some (.bor (.fz (.lst sh))), none, x3, some (.bor (.fz (.int i))), a5, some (.bor (.fz (.tup ws))), eD d, u8], _, sh, [a0, some (.bor (.fz (.lst sh))), none, x3, some (.bor (.fz (.int i))), a5, some (.bor (.fz (.tup ws))), eD d, u8], _, rfl, rfl, by simp -implicitDefEqProofs [], compD_map (fun s => .tup [d, .int i, s]) (fun _ => rfl) (fun s hs => ⟨[a0, some (.bor (.fz (.lst sh))), eD s, x3, some (.bor (.fz (.int i))), a5, some (.bor (.fz (.tup ws))), eD d, u8], rfl, by simp -implicitDefEqProofs [], rfl⟩) (by simpa using ha), rfl⟩
  · have : ∀ l : List D, (l.flatMap fun w => sh.map fun d => D.tup [w, .int i, d]).length = l.length * sh.length := fun l => by
      induction l with
      | nil => simp
      | cons a l ih => rw [List.flatMap_cons, List.length_append, ih, List.length_map, List.length_cons, Nat.add_mul]; omega
    rw [this]
    exact hl
def pthI (z : Nat) (ms : List Mv) (s : St) (acc : List Mv) (e : DL.Env) : Prop := ∃ u2 u4 u5 u6 u7 u8, e = [eD (coD z ms s), eD (.lst (shD z)), u2, eT (.lst (acc.map Mv.d)), u4, u5, u6, u7, u8]
theorem mvs_d (ws : List Str) (sh : List At) (i : Nat) : ((ws.map D.str).flatMap fun w => (sh.map At.d).map fun d => D.tup [w, .int (i : Int), d]) = (ws.flatMap fun w => sh.map fun a => (⟨w, [.n i, a]⟩ : Mv)).map Mv.d := by
  induction ws with
  | nil => rfl
  | cons w ws ih =>
    rw [List.map_cons, List.flatMap_cons, ih, List.flatMap_cons, List.map_append]
    congr 1
    rw [List.map_map, List.map_map]
    rfl
theorem aug_found {ga : DL.Env → Out D} {a0 a1 u2 u4 u5 u6 u7 u8 : Option Ent} {xs ys : List D} {e' : DL.Env} (h : ga (lendE [a0, a1, u2, eT (.lst xs), u4, u5, u6, u7, u8]) = .ok (.lst ys) e') (hl : xs.length + ys.length ≤ 16777216) : augG 3 ga [a0, a1, u2, eT (.lst xs), u4, u5, u6, u7, u8] = .ok .nx [a0, a1, u2, eT (.lst (xs ++ ys)), u4, u5, u6, u7, u8] := by
  have hl' : xs.length + ys.length ≤ sizeLine := Nat.le_trans hl (by decide)
  rw [augG_c, show rdo 3 [] [a0, a1, u2, eT (.lst xs), u4, u5, u6, u7, u8] = some (.lst xs) from rfl]
  simp only [pur_c, h, purK_ok, b_ok]
  rw [if_pos hl']
  rfl
theorem comp_ans (sh : List D) (hs : sh.length ≤ sizeLine) (i : Int) (b : Bool) (a0 u2 x3 u5 u6 u7 : Option Ent) :
    ∃ e', compG (fun env => (rdz 1 env).bind fun d e => lft (iterD d) e) (gtN 2) (fun env => ((rdz 8 env).bind fun x e => lft (asB x) e).bind fun c e => Out.ok (!c) e)
      (fun env => (((rdz 4 env).bind fun x e => ((rdz 2 e).bind fun x e => Out.ok [x] e).bind fun xs e => Out.ok (x :: xs) e).bind fun xs e => Out.ok (D.str (Str.ofString "answer") :: xs) e).bind fun ds e => if small ds = true then Out.ok (D.tup ds) e else Out.fail) [2]
      [a0, some (.bor (.fz (.lst sh))), u2, x3, some (.bor (.fz (.int i))), u5, u6, u7, some (.bor (.fz (.bl b)))] = .ok (.lst (sh.filterMap fun d => if b = true then none else some (.tup [.str (Str.ofString "answer"), .int i, d]))) e' := by
  refine ⟨_, compG_fm [a0, some (.bor (.fz (.lst sh))), u2, x3, some (.bor (.fz (.int i))), u5, u6, u7, some (.bor (.fz (.bl b)))] sh _ ?_ ?_ hs⟩
  · simp -implicitDefEqProofs []
  · intro d hd
    refine ⟨[a0, some (.bor (.fz (.lst sh))), eD d, x3, some (.bor (.fz (.int i))), u5, u6, u7, some (.bor (.fz (.bl b)))], rfl, !b, [a0, some (.bor (.fz (.lst sh))), eD d, x3, some (.bor (.fz (.int i))), u5, u6, u7, some (.bor (.fz (.bl b)))], by simp -implicitDefEqProofs [], ?_, ?_⟩
    · intro hb
      have : b = true := by simpa using hb
      exact ⟨by simp [this], rfl⟩
    · intro hb
      have : b = false := by simpa using hb
      refine ⟨.tup [.str (Str.ofString "answer"), .int i, d], [a0, some (.bor (.fz (.lst sh))), eD d, x3, some (.bor (.fz (.int i))), u5, u6, u7, some (.bor (.fz (.bl b)))], by simp -implicitDefEqProofs [], by simp [this], rfl⟩
theorem ans_d (sh : List At) (q : (Nat × Bool) × Nat) : ((sh.map At.d).filterMap fun d => if q.1.2 = true then none else some (D.tup [.str (Str.ofString "answer"), .int (q.2 : Int), d])) = (caMoves sh q).map Mv.d := by
  unfold caMoves
  split
  · rename_i h
    simp [h]
  · rename_i h
    simp only [h, if_false, List.filterMap_map, List.map_map, Bool.false_eq_true]
    rw [← List.filterMap_eq_map]
    rfl
theorem e_pcould {z : Nat} (hz : z ≤ 10) (ms : List Mv) (s : St) (hne : s.th ≠ []) (hsh : ∀ t ∈ s.th, Shp t.sh) (hf : Fine s 100) :
    semOf 1 8 [] D_Course_could.1 [.fz (coD z ms s)] = .ok (.lst ((couldL (shL z) s).map Mv.d)) [none] := by
  rw [show semOf 1 8 [] D_Course_could.1 [.fz (coD z ms s)] = _ from semOf_ok rfl]
  simp only [D_Course_could]
  simp -implicitDefEqProofs only [b_ok, m_ok, l_some, small0, small1, small2, small3, if_true, er_fz, er_lst, List.map_cons, List.map_nil]
  have hs : (shL z).length ≤ 12 := by rw [shL_len]; omega
  have n1 := hf.n1
  have n2 := hf.n2
  have hv0 : ¬ vaL s = [] := by simp [vaL, hne]
  refine seq_step [eD (coD z ms s), eD (.lst (shD z)), none, none, none, none, none, none, none] (P := fun o => fin [] 1 o = FO.ok (.lst ((couldL (shL z) s).map Mv.d)) [none]) ?_ ?_
  · simp -implicitDefEqProofs [co_size, okRg_nat z (by omega), rgD_nat]
    rw [small_le (by simp; omega)]
    simp -implicitDefEqProofs [shD, shL, At.d]
  refine seq_step [eD (coD z ms s), eD (.lst (shD z)), none, none, none, none, none, none, none] (P := fun o => fin [] 1 o = FO.ok (.lst ((couldL (shL z) s).map Mv.d)) [none]) ?_ ?_
  · simp -implicitDefEqProofs [co_held, eq_nil, hv0]
  refine seq_step [eD (coD z ms s), eD (.lst (shD z)), none, eT (.lst []), none, none, none, none, none] (P := fun o => fin [] 1 o = FO.ok (.lst ((couldL (shL z) s).map Mv.d)) [none]) ?_ ?_
  · simp -implicitDefEqProofs []
  have run1 := run_app (F := thMoves (shL z)) (p := fun q : Th × Nat => Shp q.1.sh) (L := 2 * (shL z).length) (B := 900000) (ps := s.th.zipIdx) (acc := []) (fun q hq => ⟨hsh _ (by have := List.mem_zipIdx' hq; rw [this.2]; exact List.getElem_mem _), thMoves_len _ _⟩) (by
    rw [List.length_zipIdx]
    have h24 : 2 * (shL z).length ≤ 24 := by omega
    have := Nat.mul_le_mul n1 h24
    simp
    omega)
  have en : enm [.lst (vaL s)] = some (s.th.zipIdx.map fun p => D.tup [.int (p.2 : Nat), vaD p.1]) := by
    rw [enm_lst]
    unfold enumD vaL
    rw [List.zipIdx_map, List.map_map]
    rfl
  simp -implicitDefEqProofs only [rdz_z, b_ok, co_held, l_some, en]
  refine seq_forR (pthI z ms s) (P := fun o => fin [] 1 o = FO.ok (.lst ((couldL (shL z) s).map Mv.d)) [none]) run1 ?_ ⟨_, _, _, _, _, _, rfl⟩ ?_
  · rintro acc ⟨t, i⟩ acc' e ⟨ht, hb, rfl⟩ ⟨u2, u4, u5, u6, u7, u8, rfl⟩
    have cw : ∀ (ws : List Str), ws.length ≤ 2 → augG 3 (fun env => (compG2 (fun env => (rdz 6 env).bind fun d e => lft (iterD d) e) (gtN 7) (fun e => Out.ok true e) (fun env => (rdz 1 env).bind fun d e => lft (iterD d) e) (gtN 2) (fun e => Out.ok true e)
      (fun env => ((rdz 7 env).bind fun x e => ((rdz 4 e).bind fun x e => ((rdz 2 e).bind fun x e => Out.ok [x] e).bind fun xs e => Out.ok (x :: xs) e).bind fun xs e => Out.ok (x :: xs) e).bind fun ds e => if small ds = true then Out.ok (D.tup ds) e else Out.fail) [7, 2] [2] env).map er) [eD (coD z ms s), eD (.lst (shD z)), u2, eT (.lst (acc.map Mv.d)), eI (i : Int), eD (vaD t), eD (.tup (ws.map D.str)), u7, u8]
       = .ok .nx [eD (coD z ms s), eD (.lst (shD z)), u2, eT (.lst ((acc ++ ws.flatMap fun w => (shL z).map fun a => (⟨w, [.n i, a]⟩ : Mv)).map Mv.d)), eI (i : Int), eD (vaD t), eD (.tup (ws.map D.str)), u7, u8] := by
      intro ws hw
      have hm : ws.length * (shL z).length ≤ 24 := by
        have := Nat.mul_le_mul hw hs
        omega
      obtain ⟨e', h⟩ := comp_words (shD z) (ws.map D.str) (i : Int) (some (.bor (.fz (coD z ms s)))) (u2.map lend) (some (.bor (.lst (acc.map Mv.d)))) (some (.bor (.fz (vaD t)))) (u7.map lend) (u8.map lend) (by
        rw [List.length_map, shD, List.length_map]
        exact Nat.le_trans hm (by decide))
      rw [aug_found (ys := (ws.flatMap fun w => (shL z).map fun a => (⟨w, [.n i, a]⟩ : Mv)).map Mv.d) (e' := e') ?_ ?_]
      · rw [List.map_append]
      · simp -implicitDefEqProofs only [lendE_c, lendE_n, lend_own, Option.map_some]
        rw [h, m_ok, er_lst, shD, mvs_d]
      · have : ∀ l : List Str, (l.flatMap fun w => (shL z).map fun a => (⟨w, [.n i, a]⟩ : Mv)).length = l.length * (shL z).length := fun l => by
          induction l with
          | nil => simp
          | cons a l ih => rw [List.flatMap_cons, List.length_append, ih, List.length_map, List.length_cons, Nat.add_mul]; omega
        rw [List.length_map, List.length_map, this]
        omega
    refine ⟨_, _, rfl, ?_, ⟨u2, eI (i : Int), eD (vaD t), eD (.tup ((words t.sh).map D.str)), u7, u8, rfl⟩⟩
    refine seq_step (P := fun o => o = _) [eD (coD z ms s), eD (.lst (shD z)), u2, eT (.lst (acc.map Mv.d)), eI (i : Int), eD (vaD t), eD (.tup ((words t.sh).map D.str)), u7, u8] ?_ (cw (words t.sh) (by
      rcases ht with ⟨k, h⟩ | h | h <;> simp only at h <;> rw [h]
      · exact Nat.zero_le _
      · exact Nat.le_succ _
      · rw [words_pair]; exact Nat.le_refl _))
    rcases ht with ⟨k, h⟩ | h | h <;> simp only at h
    · simp -implicitDefEqProofs [va_shape, h, At.d, words]
    · simp -implicitDefEqProofs [va_shape, h, At.d, words]
    · simp -implicitDefEqProofs [va_shape, h, At.d, words_pair]
  rintro e ⟨u2, u4, u5, u6, u7, u8, rfl⟩
  have hacc : (s.th.zipIdx.flatMap (thMoves (shL z))).length ≤ 2400 := by
    have gen : ∀ l : List (Th × Nat), (l.flatMap (thMoves (shL z))).length ≤ l.length * 24 := by
      intro l
      induction l with
      | nil => simp
      | cons a l ih =>
        have h1 := thMoves_len (shL z) a
        rw [List.flatMap_cons, List.length_append, List.length_cons]
        omega
    have h1 := gen s.th.zipIdx
    rw [List.length_zipIdx] at h1
    omega
  have hacc2 : (s.ca.zipIdx.flatMap (caMoves (shL z))).length ≤ 2400 := by
    have gen : ∀ l : List ((Nat × Bool) × Nat), (l.flatMap (caMoves (shL z))).length ≤ l.length * 24 := by
      intro l
      induction l with
      | nil => simp
      | cons a l ih =>
        have h1 := caMoves_len (shL z) a
        rw [List.flatMap_cons, List.length_append, List.length_cons]
        omega
    have h1 := gen s.ca.zipIdx
    rw [List.length_zipIdx] at h1
    omega
  have run2 := run_app (F := caMoves (shL z)) (p := fun q : (Nat × Bool) × Nat => True) (L := 2 * (shL z).length) (B := 900000) (ps := s.ca.zipIdx) (acc := s.th.zipIdx.flatMap (thMoves (shL z))) (fun q hq => ⟨trivial, caMoves_len _ _⟩) (by
    rw [List.length_zipIdx]
    have h24 : 2 * (shL z).length ≤ 24 := by omega
    have h3 := Nat.mul_le_mul n2 h24
    omega)
  have en2 : enm [.lst (caL s)] = some (s.ca.zipIdx.map fun p => D.tup [.int (p.2 : Nat), caD p.1]) := by
    rw [enm_lst]
    unfold enumD caL
    rw [List.zipIdx_map, List.map_map]
    rfl
  simp only [List.nil_append]
  simp -implicitDefEqProofs only [rdz_z, b_ok, co_calls, l_some, en2]
  refine seq_forR (pthI z ms s) (P := fun o => fin [] 1 o = FO.ok (.lst ((couldL (shL z) s).map Mv.d)) [none]) run2 ?_ ⟨_, _, _, _, _, _, rfl⟩ ?_
  · rintro acc ⟨⟨o, b⟩, i⟩ acc' e ⟨-, hb, rfl⟩ ⟨u2, u4, u5, u6, u7, u8, rfl⟩
    refine ⟨_, _, rfl, ?_, ⟨u2, eI (i : Int), eI (o : Int), u6, u7, eD (.bl b), rfl⟩⟩
    obtain ⟨e', h⟩ := comp_ans (shD z) (by rw [shD, List.length_map]; exact Nat.le_trans hs (by decide)) (i : Int) b (some (.bor (.fz (coD z ms s)))) (u2.map lend) (some (.bor (.lst (acc.map Mv.d)))) (some (.bor (.fz (.int (o : Int))))) (u6.map lend) (u7.map lend)
    have hl := caMoves_len (shL z) ((o, b), i)
    refine (aug_found (ys := (caMoves (shL z) ((o, b), i)).map Mv.d) (e' := e') ?_ ?_).trans ?_
    · show (compG _ _ _ _ [2] [some (.bor (.fz (coD z ms s))), some (.bor (.fz (.lst (shD z)))), u2.map lend, some (.bor (.lst (acc.map Mv.d))), some (.bor (.fz (.int (i : Int)))), some (.bor (.fz (.int (o : Int)))), u6.map lend, u7.map lend, some (.bor (.fz (.bl b)))]).map er = _
      rw [h, m_ok, er_lst, shD]
      have := ans_d (shL z) ((o, b), i)
      simp only at this
      rw [this]
    · rw [List.length_map, List.length_map]
      omega
    · rw [List.map_append]
  rintro e ⟨u2, u4, u5, u6, u7, u8, rfl⟩
  generalize hA : s.th.zipIdx.flatMap (thMoves (shL z)) ++ s.ca.zipIdx.flatMap (caMoves (shL z)) = A
  have hAl : A.length ≤ 5000 := by rw [← hA, List.length_append]; omega
  have hr : rng1 [.int ((vaL s).length : Int)] = some (rngD 0 s.th.length) := by rw [vaL_len]; exact rng1_nat _ (by omega)
  have hu := compG_map (vs := [4]) (gt := gtN 4) (gc := fun e => Out.ok true e) (ge := fun env => (((rdz 4 env).bind fun x e => Out.ok [x] e).bind fun xs e => Out.ok (D.str (Str.ofString "use") :: xs) e).bind fun ds e => if small ds = true then Out.ok (D.tup ds) e else Out.fail)
    (gi := fun env => ((((((rdz 0 env).bind fun d e => lft (attD cs_held (Str.ofString "held") d) e).bind fun x e => Out.ok [x] e).bind fun ds e => lft (lenf ds) e).map er).bind fun x e => Out.ok [x] e).bind fun ds e => lft (rng1 ds) e)
    (env := [eD (coD z ms s), eD (.lst (shD z)), u2, eD (.lst (A.map Mv.d)), u4, u5, u6, u7, u8]) [eD (coD z ms s), eD (.lst (shD z)), u2, eD (.lst (A.map Mv.d)), u4, u5, u6, u7, u8] (rngD 0 s.th.length) (fun d => .tup [.str (Str.ofString "use"), d]) (by simp -implicitDefEqProofs [co_held, hr]) (fun _ => rfl) (fun d hd => ⟨[eD (coD z ms s), eD (.lst (shD z)), u2, eD (.lst (A.map Mv.d)), eD d, u5, u6, u7, u8], rfl, by simp -implicitDefEqProofs [], rfl⟩) (by
      have : (rngD 0 s.th.length).length = s.th.length := by simp [rngD]
      rw [this]
      exact Nat.le_trans n1 (by decide))
  have ad : addf (.lst (A.map Mv.d)) (.lst ((rngD 0 s.th.length).map fun d => .tup [.str (Str.ofString "use"), d])) = some (.lst ((couldL (shL z) s).map Mv.d)) := by
    rw [addf_lst _ _ (by simp [rngD]; omega)]
    simp [couldL, hne, ← hA, rngD, Mv.d, atn]
  simp -implicitDefEqProofs only [rdz_s, rdz_l, upO_ok, b_ok]
  rw [hu]
  simp -implicitDefEqProofs [ad, -List.map_map]
end K02

end
section
namespace K02
open PySem PySem.Spec PyProof.Rows L2 DL LamX
inductive Split (z : Nat) (cs : List Cd) : Prop
  | all (ms : List Mv) (p : Nat × St) (run : RunZ z ms p) (h : cs = ms.map Mv.cd)
  | bad (ms : List Mv) (p : Nat × St) (c : Cd) (rest : List Cd) (run : RunZ z ms p) (h : cs = ms.map Mv.cd ++ c :: rest) (hc : canC z p.2 c = false)
theorem runz_len {z : Nat} {ms : List Mv} {p : Nat × St} (r : RunZ z ms p) : p.1 = ms.length := by
  have := run_len r
  simpa using this
theorem split_of {z : Nat} : ∀ (cs : List Cd) (ms : List Mv) (p : Nat × St), RunZ z ms p → ms.length + cs.length ≤ 100 → Split z (ms.map Mv.cd ++ cs)
  | [], ms, p, r, _ => .all ms p r (by simp)
  | c :: cs, ms, p, r, h => by
    rw [List.length_cons] at h
    cases hc : canC z p.2 c with
    | false => exact .bad ms p c cs r rfl hc
    | true =>
      obtain ⟨m, s', rfl, can⟩ := can_of (runz_fine r).ca hc
      have r' : RunZ z (ms ++ [m]) (p.1 + 1, s') := r.snoc ⟨by have := runz_len r; omega, runz_fine r, can, rfl⟩
      have := split_of cs (ms ++ [m]) _ r' (by rw [List.length_append, List.length_singleton]; omega)
      simpa using this
theorem split {z : Nat} (cs : List Cd) (h : cs.length ≤ 100) : Split z cs := split_of cs [] (0, ⟨[], []⟩) .nil (by simpa using h)
/-! ### made -/
theorem e_course0 (z : Int) : semOf 2 0 [0] D_Course___init__.1 [.ins 3 [], .fz (.int z)] = .ok (.fz .non) [some (coG z [] [] []), none] := by
  kernel_rfl
theorem aft_course (e : DL.Env) (z : Int) : afterMk 2 3 (semOf 2 0 [0] D_Course___init__.1) e [.int z] = .ok (coG z [] [] []) e := by
  unfold afterMk
  simp only [fo_eq, List.map_cons, List.map_nil, List.length_cons, List.length_nil, Nat.zero_add, Nat.reduceAdd, if_true, e_course0]
  rfl
theorem pick_make (z : Int) (m h c : List D) : pick ms_make (Str.ofString "make") (coG z m h c) = some (semOf 2 4 [0] D_Course_make.1) := by rfl
theorem run_pairA {z : Nat} {p q : Nat × St} {ms : List Mv} (r : Run (· ∈ shL z) p ms q) : ∀ {acc : List Mv} {N : Nat}, RunZ z acc p → acc.length + ms.length ≤ N → RunR (fun (a : (Nat × St) × List Mv) m b => (Stp (· ∈ shL z) a.1 m b.1 ∧ RunZ z a.2 a.1 ∧ b.2 = a.2 ++ [m]) ∧ a.2.length < N) (p, acc) ms (q, acc ++ ms) := by
  induction r with
  | nil => intro acc N _ _; rw [List.append_nil]; exact .nil
  | @cons s s1 s2 m ms a _ ih =>
    intro acc N h hN
    rw [List.length_cons] at hN
    have e : acc ++ m :: ms = (acc ++ [m]) ++ ms := by simp
    rw [e]
    exact .cons (s1 := (s1, acc ++ [m])) ⟨⟨a, h, rfl⟩, by show acc.length < N; omega⟩ (ih (h.snoc a) (by rw [List.length_append, List.length_singleton]; omega))
theorem run_pair {z : Nat} {p : Nat × St} {ms : List Mv} {N : Nat} (r : RunZ z ms p) (h : ms.length ≤ N) : RunR (fun (a : (Nat × St) × List Mv) m b => (Stp (· ∈ shL z) a.1 m b.1 ∧ RunZ z a.2 a.1 ∧ b.2 = a.2 ++ [m]) ∧ a.2.length < N) ((0, ⟨[], []⟩), []) ms (p, ms) := by
  have := run_pairA r (acc := []) (N := N) .nil (by simpa using h)
  simpa using this
@[simp] theorem afterIO_eq (n : Nat) (sem : List T → FO) (i : Nat) (p : Pth) (t : T) (env : DL.Env) (ds : List D) : afterIO n sem i p t env ds = (match fo n sem (t :: ds.map T.fz) with
  | .ok r (some t' :: _) => (match putG i p t' env with
    | some e' => .ok r e'
    | none => .fail)
  | .exc x => .exc x (dropE i env)
  | _ => .fail) := rfl
theorem fitW_mv {z : Nat} {s s' : St} {m : Mv} (h : Can (· ∈ shL z) s m s') : fitW m.cd := by cases h <;> simp [fitW, Mv.cd]
theorem e_made {z : Nat} (b k : Bool) (cs : List Cd) (hl : cs.length ≤ 100) (hf : ∀ c ∈ cs, fitW c) :
    (∀ ms p, RunZ z ms p → cs = ms.map Mv.cd → semOf 2 2 [] D_made.1 [.fz (.int (z : Int)), .fz (rowK k (cs.map (cdK b)))] = .ok (.fz (coD z ms p.2)) [none, none])
    ∧ (∀ ms p c rest, RunZ z ms p → cs = ms.map Mv.cd ++ c :: rest → canC z p.2 c = false → semOf 2 2 [] D_made.1 [.fz (.int (z : Int)), .fz (rowK k (cs.map (cdK b)))] = .exc ⟨1, [("number", .int (ms.length : Int))]⟩) := by
  have hit : ∀ ds, iterD (rowK k ds) = some ds := fun ds => by cases k <;> rfl
  have turn : ∀ (gb : DL.Env → Out Fl) (R : D), (gb = fun env => ((callMio 2 ms_make (Str.ofString "make") 2 [] (fun env => (rdz 3 env).bind fun x e => Out.ok [x] e) env).map er).bind fun x e => Out.ok Fl.nx e) →
      ∀ (a : (Nat × St) × List Mv) (m : Mv) (a' : (Nat × St) × List Mv) (e : DL.Env), (Stp (· ∈ shL z) a.1 m a'.1 ∧ RunZ z a.2 a.1 ∧ a'.2 = a.2 ++ [m]) ∧ a.2.length < 100 → (∃ u, e = [eI (z : Int), eD R, eT (coT z a.2 a.1.2), u]) → ∃ e1 e2, gtN 3 (cdK b m.cd) e = some e1 ∧ gb e1 = .ok .nx e2 ∧ ∃ u, e2 = [eI (z : Int), eD R, eT (coT z a'.2 a'.1.2), u] := by
    rintro gb R rfl a m a' e ⟨⟨st, rz, ha⟩, hlt⟩ ⟨u, rfl⟩
    have hm := e_make b z a.2 a.1.2 a'.1.2 m (runz_shp rz) st.2.2.1 (by omega) ((runz_fine rz).mono (by rw [runz_len rz]; omega))
    rw [← ha] at hm
    rw [coT_eq, coT_eq] at hm
    rw [coT_eq, coT_eq]
    refine ⟨_, [eI (z : Int), eD R, eT (coG z (a'.2.map Mv.d) (vaL a'.1.2) (caL a'.1.2)), eD (cdK b m.cd)], rfl, ?_, _, rfl⟩
    simp -implicitDefEqProofs [pick_make, hm]
  have map_cd : ∀ ms : List Mv, (ms.map Mv.cd).map (cdK b) = ms.map fun m => cdK b m.cd := fun ms => by rw [List.map_map]; rfl
  constructor
  · intro ms p run h
    rw [show semOf 2 2 [] D_made.1 [.fz (.int (z : Int)), .fz (rowK k (cs.map (cdK b)))] = _ from semOf_ok rfl]
    simp only [D_made]
    simp -implicitDefEqProofs only [b_ok, m_ok, l_some, small0, small1, small2, small3, if_true, er_fz, er_lst, List.map_cons, List.map_nil]
    generalize hR : rowK k (cs.map (cdK b)) = R
    have hr : iterD R = some (ms.map fun m => cdK b m.cd) := by rw [← hR, hit, h, map_cd]
    have hi : semOf 1 0 [] D_is_row.1 [.fz R] = .ok (.fz (.bl true)) [none] := by rw [← hR]; exact isr_row _ _
    refine seq_step (P := fun o => fin [] 2 o = _) [eI (z : Int), eD R, none, none] (by simp -implicitDefEqProofs [hi]) ?_
    refine seq_step (P := fun o => fin [] 2 o = _) [eI (z : Int), eD R, eT (coG (z : Int) [] [] []), none] (by simp -implicitDefEqProofs [callC_eq, aft_course]) ?_
    simp -implicitDefEqProofs only [rdz_s, rdz_z, upO_ok, b_ok, hr, l_some]
    have hll : ms.length ≤ 100 := by rw [h, List.length_map] at hl; exact hl
    refine seq_forR (P := fun o => fin [] 2 o = _) (fun a e => ∃ u, e = [eI (z : Int), eD R, eT (coT z a.2 a.1.2), u]) (run_pair run hll) (turn _ R rfl) ⟨none, rfl⟩ ?_
    rintro e ⟨u, rfl⟩
    simp -implicitDefEqProofs [coT_eq, coD_eq]
  · intro ms p c rest run h hc
    rw [show semOf 2 2 [] D_made.1 [.fz (.int (z : Int)), .fz (rowK k (cs.map (cdK b)))] = _ from semOf_ok rfl]
    simp only [D_made]
    simp -implicitDefEqProofs only [b_ok, m_ok, l_some, small0, small1, small2, small3, if_true, er_fz, er_lst, List.map_cons, List.map_nil]
    have hfc : fitW c := hf c (by rw [h]; simp)
    generalize hR : rowK k (cs.map (cdK b)) = R
    have hr : iterD R = some ((ms.map fun m => cdK b m.cd) ++ cdK b c :: rest.map (cdK b)) := by rw [← hR, hit, h, List.map_append, map_cd, List.map_cons]
    have hi : semOf 1 0 [] D_is_row.1 [.fz R] = .ok (.fz (.bl true)) [none] := by rw [← hR]; exact isr_row _ _
    refine seq_step (P := fun o => fin [] 2 o = _) [eI (z : Int), eD R, none, none] (by simp -implicitDefEqProofs [hi]) ?_
    refine seq_step (P := fun o => fin [] 2 o = _) [eI (z : Int), eD R, eT (coG (z : Int) [] [] []), none] (by simp -implicitDefEqProofs [callC_eq, aft_course]) ?_
    simp -implicitDefEqProofs only [rdz_s, rdz_z, upO_ok, b_ok, hr, l_some]
    have hll : ms.length ≤ 100 := by rw [h, List.length_append, List.length_map] at hl; omega
    obtain ⟨e, h1, u, rfl⟩ := forD_relA (gt := gtN 3) (fun a e => ∃ u, e = [eI (z : Int), eD R, eT (coT z a.2 a.1.2), u]) (run_pair run hll) (turn _ R rfl) (e := [eI (z : Int), eD R, eT (coG (z : Int) [] [] []), none]) ⟨none, rfl⟩
    rw [h1, forD_cons, gtN_eq]
    have hb := e_make_bad b z ms p.2 c hfc (runz_shp run) hc
    rw [coT_eq] at hb
    simp -implicitDefEqProofs [coT_eq, pick_make, hb]
end K02

end
section
namespace K02
open PySem PySem.Spec PyProof.Rows L2 DL LamX
theorem isB1 : is_BadCourse 1 = some true := by kernel_rfl
theorem e_is_course_ok (z : Int) (d r : D) (h : semOf 2 2 [] D_made.1 [.fz (.int z), .fz d] = .ok (.fz r) [none, none]) : semOf 2 0 [] D_is_course.1 [.fz (.int z), .fz d] = .ok (.fz (.bl true)) [none, none] := by
  rw [show semOf 2 0 [] D_is_course.1 [.fz (.int z), .fz d] = _ from semOf_ok rfl]
  simp only [D_is_course]
  simp -implicitDefEqProofs [tryO, h]
theorem e_is_course_bad (z : Int) (d : D) (fs : List (Str × D)) (h : semOf 2 2 [] D_made.1 [.fz (.int z), .fz d] = .exc ⟨1, fs⟩) : semOf 2 0 [] D_is_course.1 [.fz (.int z), .fz d] = .ok (.fz (.bl false)) [none, none] := by
  rw [show semOf 2 0 [] D_is_course.1 [.fz (.int z), .fz d] = _ from semOf_ok rfl]
  simp only [D_is_course]
  simp -implicitDefEqProofs [tryO, h, isB1, noexc]
theorem e_made_none (z : Int) (d : D) (h : isiF tt_list_tuple cc_list_tuple d = some false) : semOf 2 2 [] D_made.1 [.fz (.int z), .fz d] = .exc ⟨1, [("number", .non)]⟩ := by
  rw [show semOf 2 2 [] D_made.1 [.fz (.int z), .fz d] = _ from semOf_ok rfl]
  simp only [D_made]
  simp -implicitDefEqProofs [e_is_row d false h, raiG]
/-! ### path_of -/
/-- where a thing comes from, as a row of places -/
inductive PathR (s : St) : Nat → List Nat → Prop
  | stop {n : Nat} (h : n < s.th.length) (e : s.th[n].o = none) : PathR s n []
  | up {n m p : Nat} {r : List Nat} (h : n < s.th.length) (e : s.th[n].o = some (m, p)) (hm : m < n) (t : PathR s m r) : PathR s n (r ++ [p])
/-- each comes from a lesser one -/
def Less (s : St) : Prop := ∀ (n : Nat) (h : n < s.th.length) (m p : Nat), s.th[n].o = some (m, p) → m < n
theorem path_ex {s : St} (l : Less s) : ∀ (k n : Nat), n < k → n < s.th.length → ∃ r, PathR s n r ∧ r.length ≤ n
  | 0, n, h, _ => by omega
  | k + 1, n, h, hn => by
    cases e : s.th[n].o with
    | none => exact ⟨[], .stop hn e, Nat.zero_le _⟩
    | some q =>
      obtain ⟨m, p⟩ := q
      have hm := l n hn m p e
      obtain ⟨r, h1, h2⟩ := path_ex l k m (by omega) (by omega)
      exact ⟨r ++ [p], .up hn e hm h1, by rw [List.length_append, List.length_singleton]; omega⟩
theorem less_can {ok : At → Prop} {s s' : St} {m : Mv} (c : Can ok s m s') (f : ∀ p ∈ s.ca, p.1 < s.th.length) (l : Less s) : Less s' := by
  have ap : ∀ (x : Th) (q : List (Nat × Bool)), (∀ m p, x.o = some (m, p) → m < s.th.length) → Less ⟨s.th ++ [x], q⟩ := fun x q hx n hn m p e => by
    simp only at hn e
    rw [List.length_append, List.length_singleton] at hn
    by_cases h : n < s.th.length
    · rw [List.getElem_append_left h] at e
      exact l n h m p e
    · have : n = s.th.length := by omega
      subst this
      rw [List.getElem_append_right (Nat.le_refl _)] at e
      simp only [Nat.sub_self, List.getElem_cons_zero] at e
      exact hx m p e
  cases c with
  | give ha => intro n hn m p e; simp only [List.length_singleton] at hn; have : n = 0 := by omega
               subst this; cases e
  | call h ha hs => exact ap _ _ fun m p e => by cases e; exact h
  | left h ha hs => exact ap _ _ fun m p e => by cases e; exact h
  | right h ha hs => exact ap _ _ fun m p e => by cases e; exact h
  | answer h h2 ha hs => exact ap _ _ fun m p e => by cases e; exact h2
  | use h => exact l
theorem runz_less {z : Nat} {ms : List Mv} {p : Nat × St} (r : RunZ z ms p) : Less p.2 := by
  have gen : ∀ {p q : Nat × St} {ms : List Mv}, Run (· ∈ shL z) p ms q → Less p.2 → Less q.2 := by
    intro p q ms r
    induction r with
    | nil => exact id
    | @cons s s1 s2 m ms a _ ih => exact fun h => ih (less_can a.2.2.1 a.2.1.ca h)
  exact gen r (fun n h => by simp at h)
end K02

end
section
namespace K02
open PySem PySem.Spec PyProof.Rows L2 DL LamX
theorem ne_or (o : Option (Nat × Nat)) : nef (orT o) (.tup []) = some (.bl (decide (o ≠ none))) := by
  cases o with
  | none => exact nef_enc (α := Tp Nat) ⟨[]⟩ ⟨[]⟩ (fun _ h => nomatch h) (fun _ h => nomatch h)
  | some q => exact nef_enc (α := Tp Nat) ⟨[q.1, q.2]⟩ ⟨[]⟩ (fun _ _ => trivial) (fun _ h => nomatch h)
def plD (r : List Nat) : List D := r.map fun n : Nat => .int (n : Int)
theorem path_while {z : Nat} {ms : List Mv} {s : St} {n : Nat} {r : List Nat} (p : PathR s n r) : ∀ (F : List Nat) (k : Nat) (u : Option Ent), r.length < k → r.length + F.length ≤ 1000 → ∃ n' u', whileD
      (fun env => ((((rdz 0 env).bind fun d e => lft (attD cs_held (Str.ofString "held") d) e).bind fun x e => (rdz 1 e).bind fun y e => lft (ixf x y) e).bind fun d e => lft (attD cs_origin (Str.ofString "origin") d) e).bind fun x e => lft ((nef x (D.tup [])).bind asB) e)
      (fun env => seqF (asgG (gtTup 2 (gtCons (gtN 1) (gtCons (gtN 3) gtNil))) (fun env => (((rdz 0 env).bind fun d e => lft (attD cs_held (Str.ofString "held") d) e).bind fun x e => (rdz 1 e).bind fun y e => lft (ixf x y) e).bind fun d e => lft (attD cs_origin (Str.ofString "origin") d) e) env) fun env =>
        ((((rdz 3 env).bind fun x e => ((rdz 2 e).bind fun d e => (lft (rowD d) e).bind fun xs e => Out.ok (xs ++ []) e).bind fun xs e => Out.ok (x :: xs) e).bind fun ds e => if small ds = true then Out.ok (D.tup ds) e else Out.fail).map T.fz).bind (stv 2)) k
      [eD (coD z ms s), eI (n : Int), eD (.tup (plD F)), u] = .ok .nx [eD (coD z ms s), eI n', eD (.tup (plD (r ++ F))), u'] := by
  induction p with
  | @stop n h e =>
    intro F k u hk hl
    cases k with
    | zero => exact absurd hk (Nat.not_lt_zero _)
    | succ k =>
      refine ⟨(n : Int), u, ?_⟩
      refine whileD_end ?_
      simp -implicitDefEqProofs [co_held, th_ix s n h, va_origin, e, ne_or]
  | @up n m q r h e hm t ih =>
    intro F k u hk hl
    rw [List.length_append, List.length_singleton] at hk hl
    cases k with
    | zero => exact absurd hk (Nat.not_lt_zero _)
    | succ k =>
      obtain ⟨n', u', hi⟩ := ih (q :: F) k (eI (q : Int)) (by omega) (by rw [List.length_cons]; omega)
      refine ⟨n', u', ?_⟩
      have sm : small (D.int (q : Int) :: plD F) = true := small_le (by simp [plD]; omega)
      have n1 := ne_or (some (m, q))
      simp only [orT] at n1
      rw [show plD (r ++ [q] ++ F) = plD (r ++ q :: F) by simp, ← hi]
      refine whileD_go (e1 := [eD (coD z ms s), eI (n : Int), eD (.tup (plD F)), u]) (e2 := [eD (coD z ms s), eI (m : Int), eD (.tup (plD (q :: F))), eI (q : Int)]) ?_ ?_
      · simp -implicitDefEqProofs [co_held, th_ix s n h, va_origin, e, orT, n1]
      · simp -implicitDefEqProofs [co_held, th_ix s n h, va_origin, e, orT, show ∀ x, rowD (.tup x) = some x from fun _ => rfl, sm]
        rfl
theorem e_path_of {z : Nat} {ms : List Mv} {s : St} {n : Nat} {r : List Nat} (p : PathR s n r) (hr : r.length ≤ 900) (hn : n < s.th.length) : semOf 2 2 [] D_path_of.1 [.fz (coD z ms s), .fz (.int (n : Int))] = .ok (.fz (.tup (plD r))) [none, none] := by
  rw [show semOf 2 2 [] D_path_of.1 [.fz (coD z ms s), .fz (.int (n : Int))] = _ from semOf_ok rfl]
  simp only [D_path_of]
  simp -implicitDefEqProofs only [b_ok, m_ok, l_some, small0, small1, small2, small3, if_true, er_fz, er_lst, List.map_cons, List.map_nil]
  have hn2 : ¬ (s.th.length ≤ n) := by omega
  refine seq_step (P := fun o => fin [] 2 o = _) [eD (coD z ms s), eI (n : Int), none, none] (by simp -implicitDefEqProofs [e_number_i, co_held, vaL_len, hn2]) ?_
  refine seq_step (P := fun o => fin [] 2 o = _) [eD (coD z ms s), eI (n : Int), eD (.tup (plD [])), none] (by simp -implicitDefEqProofs [plD]) ?_
  obtain ⟨n', u', h⟩ := path_while (z := z) (ms := ms) p [] 1000 none (by omega) (by simp; omega)
  rw [List.append_nil] at h
  refine seq_step (P := fun o => fin [] 2 o = _) _ h ?_
  simp -implicitDefEqProofs []
theorem e_path_bad {z : Nat} {ms : List Mv} {s : St} (i : Int) (h : i < 0 ∨ (s.th.length : Int) ≤ i) : semOf 2 2 [] D_path_of.1 [.fz (coD z ms s), .fz (.int i)] = .exc ⟨1, [("number", .non)]⟩ := by
  rw [show semOf 2 2 [] D_path_of.1 [.fz (coD z ms s), .fz (.int i)] = _ from semOf_ok rfl]
  simp only [D_path_of]
  simp -implicitDefEqProofs only [b_ok, m_ok, l_some, small0, small1, small2, small3, if_true, er_fz, er_lst, List.map_cons, List.map_nil]
  by_cases h0 : 0 ≤ i
  · have h1 : (s.th.length : Int) ≤ i := by omega
    simp -implicitDefEqProofs [e_number_i, co_held, vaL_len, h0, h1, raiG]
  · simp -implicitDefEqProofs [e_number_i, co_held, vaL_len, h0, raiG]
end K02

end
section
namespace K02
open PySem PySem.Spec PyProof.Rows L2 DL LamX
theorem isNN_or (o : Option (Nat × Nat)) : isNN (orD o) .non = some (.bl (decide (o ≠ none))) := by
  cases o <;> rfl
theorem e_law_path {s : St} {n : Nat} {r : List Nat} (p : PathR s n r) (hr : r.length ≤ n) (hn : n < s.th.length) (hl : s.th.length ≤ 1000) : semOf 2 3 [] D_law_path.1 [.fz (.lst (thL s)), .fz (.int (n : Int))] = .ok (.fz (.tup (plD r))) [none, none] := by
  rw [show semOf 2 3 [] D_law_path.1 [.fz (.lst (thL s)), .fz (.int (n : Int))] = _ from semOf_ok rfl]
  simp only [D_law_path]
  simp -implicitDefEqProofs only [b_ok, m_ok, l_some, small0, small1, small2, small3, if_true, er_fz, er_lst, List.map_cons, List.map_nil]
  have hlen : (thL s).length = s.th.length := by simp [thL]
  refine seq_step (P := fun o => fin [] 2 o = FO.ok (.fz (.tup (plD r))) [none, none]) [eD (.lst (thL s)), eI (n : Int), eD (.lst (plD [])), none, none] (by simp -implicitDefEqProofs [plD]) ?_
  have hr1 : rng1 [.int ((thL s).length : Int)] = some (rngD 0 s.th.length) := by rw [hlen]; exact rng1_nat _ (by omega)
  simp -implicitDefEqProofs only [rdz_s, rdz_z, upO_ok, b_ok, l_some, lenf_lst, er_fz, m_ok, hr1, rngD]
  have run := run_cnt (N := s.th.length) (l := List.range s.th.length) (c := 0) (by rw [List.length_range]; omega)
  rw [List.length_range, Nat.zero_add] at run
  refine seq_forR (P := fun o => fin [] 2 o = FO.ok (.fz (.tup (plD r))) [none, none]) (fun c e => ∃ (m : Nat) (q F : List Nat) (u3 u4 : Option Ent), PathR s m q ∧ q ++ F = r ∧ c + q.length ≤ s.th.length ∧ e = [eD (.lst (thL s)), eI (m : Int), eD (.lst (plD F)), u3, u4]) run ?_ ⟨n, r, [], none, none, p, by simp, by omega, rfl⟩ ?_
  · rintro c i c' e ⟨hc, rfl⟩ ⟨m, q, F, u3, u4, pq, hq, hcq, rfl⟩
    cases pq with
    | stop h e =>
      refine ⟨_, [eD (.lst (thL s)), eI (m : Int), eD (.lst (plD F)), eI (0 + (i : Int)), u4], rfl, ?_, m, [], F, _, _, .stop h e, hq, by simp; omega, rfl⟩
      simp -implicitDefEqProofs [ix_th h, Th.d, e, isNN_or]
    | @up _ m2 b q2 h e hm t =>
      have hqf : q2.length + F.length ≤ 1000 := by
        have := congrArg List.length hq
        simp only [List.length_append, List.length_singleton] at this hcq
        omega
      refine ⟨_, [eD (.lst (thL s)), eI (m2 : Int), eD (.lst (plD (b :: F))), eI (0 + (i : Int)), eI (b : Int)], rfl, ?_, m2, q2, b :: F, _, _, t, by rw [← hq]; simp, by simp only [List.length_append, List.length_singleton] at hcq; omega, rfl⟩
      have n1 := isNN_or (some (m2, b))
      simp only [orD] at n1
      have ad : addf (.lst [.int (b : Int)]) (.lst (plD F)) = some (.lst (plD (b :: F))) := by
        rw [addf_lst _ _ (by simp [plD]; omega)]
        rfl
      simp -implicitDefEqProofs [ix_th h, Th.d, e, orD, n1, ad]
  · rintro e ⟨m, q, F, u3, u4, pq, hq, hcq, rfl⟩
    have q0 : q = [] := List.length_eq_zero_iff.mp (by omega)
    subst q0
    simp only [List.nil_append] at hq
    subst hq
    simp -implicitDefEqProofs [tuplef]
/-! ### the first move that can't be made -/
theorem ninf_could {z : Nat} {ms : List Mv} {p : Nat × St} (r : RunZ z ms p) (c : Cd) (hf : Enc.fit c) (hfm : ∀ m ∈ couldL (shL z) p.2, Enc.fit m.cd) : ninf (Enc.d c) (.lst ((couldL (shL z) p.2).map Mv.d)) = some (.bl (!canC z p.2 c)) ∧ inf (Enc.d c) (.lst ((couldL (shL z) p.2).map Mv.d)) = some (.bl (canC z p.2 c)) := by
  rw [cds_d]
  have hne : couldL (shL z) p.2 ≠ [] := could_ne
  obtain ⟨m, hm⟩ := List.exists_mem_of_ne_nil _ hne
  have h := inf_encB c ((couldL (shL z) p.2).map Mv.cd) _ (mem_could (z := z) (c := c) (runz_fine r)) hf (fun y hy => by
    obtain ⟨m, h1, rfl⟩ := List.mem_map.mp hy
    exact hfm m h1) (.inr ⟨m.cd, List.mem_map_of_mem hm, rfl⟩)
  exact ⟨h.2, h.1⟩
end K02

end
section
namespace K02
open PySem PySem.Spec PyProof.Rows L2 DL LamX
theorem fit_sh {z : Nat} {a : At} (h : a ∈ shL z) : Enc.fit (some a) := by
  rcases shp_of h with ⟨k, rfl⟩ | rfl | rfl
  · exact trivial
  · exact ok_call
  · exact ok_pair
theorem fit_can {z : Nat} {s s' : St} {m : Mv} (c : Can (· ∈ shL z) s m s') : Enc.fit m.cd := by
  intro x hx
  have num : ∀ k : Nat, Enc.fit (some (At.n k)) := fun _ => trivial
  cases c with
  | give ha =>
    simp only [List.map_cons, List.map_nil, List.mem_cons, List.not_mem_nil, or_false] at hx
    rcases hx with rfl | rfl
    · exact ok_give
    · exact fit_sh ha
  | call h ha hs =>
    simp only [List.map_cons, List.map_nil, List.mem_cons, List.not_mem_nil, or_false] at hx
    rcases hx with rfl | rfl | rfl
    · exact ok_call
    · exact num _
    · exact fit_sh ha
  | left h ha hs =>
    simp only [List.map_cons, List.map_nil, List.mem_cons, List.not_mem_nil, or_false] at hx
    rcases hx with rfl | rfl | rfl
    · exact ok_left
    · exact num _
    · exact fit_sh ha
  | right h ha hs =>
    simp only [List.map_cons, List.map_nil, List.mem_cons, List.not_mem_nil, or_false] at hx
    rcases hx with rfl | rfl | rfl
    · exact ok_right
    · exact num _
    · exact fit_sh ha
  | answer h h2 ha hs =>
    simp only [List.map_cons, List.map_nil, List.mem_cons, List.not_mem_nil, or_false] at hx
    rcases hx with rfl | rfl | rfl
    · exact ok_answer
    · exact num _
    · exact fit_sh ha
  | use h =>
    simp only [List.map_cons, List.map_nil, List.mem_cons, List.not_mem_nil, or_false] at hx
    rcases hx with rfl | rfl
    · exact ok_use
    · exact num _
theorem fit_could {z : Nat} {ms : List Mv} {p : Nat × St} (r : RunZ z ms p) : ∀ m ∈ couldL (shL z) p.2, Enc.fit m.cd := fun m hm => by
  obtain ⟨s', h⟩ := could_can (runz_fine r) hm
  exact fit_can h
theorem run_splitA {z : Nat} {p q : Nat × St} {ms : List Mv} (r : Run (· ∈ shL z) p ms q) : ∀ {acc : List Mv} (k : Nat), RunZ z acc p → k ≤ ms.length → ∃ p', RunZ z (acc ++ ms.take k) p' ∧ ∀ h : k < ms.length, canC z p'.2 ms[k].cd = true := by
  induction r with
  | nil => intro acc k h hk; exact ⟨_, by simpa using h, fun h => by simp at h⟩
  | @cons s s1 s2 m ms a _ ih =>
    intro acc k h hk
    cases k with
    | zero => exact ⟨s, by simpa using h, fun _ => of_can a.2.2.1⟩
    | succ k =>
      obtain ⟨p', h1, h2⟩ := ih (acc := acc ++ [m]) k (h.snoc a) (by simpa using hk)
      exact ⟨p', by simpa using h1, fun hl => by simpa using h2 (by simpa using hl)⟩
theorem run_split {z : Nat} {p : Nat × St} {ms : List Mv} (r : RunZ z ms p) (k : Nat) (hk : k ≤ ms.length) : ∃ p', RunZ z (ms.take k) p' ∧ ∀ h : k < ms.length, canC z p'.2 ms[k].cd = true := by
  have := run_splitA r (acc := []) k .nil hk
  simpa using this
theorem fb_turn {z : Nat} (hz : z ≤ 10) (cs : List Cd) (hl : cs.length ≤ 90) (hf : ∀ c ∈ cs, Enc.fit c) (k : Nat) (hk : k < cs.length) (ms : List Mv) (p : Nat × St) (run : RunZ z ms p) (ht : cs.take k = ms.map Mv.cd) (hlen : ms.length = k) (e : DL.Env) (he : e = [eD (toldD z), eD (.lst (cs.map Enc.d)), eI (k : Int)]) :
    ((((rdz 1 e).bind fun x e => (rdz 2 e).bind fun y e => lft (ixf x y) e).bind fun x e => ((callG 2 (semOf 2 12 [] D_law_could.1) (fun env => (rdz 0 env).bind fun x e => ((((rdz 1 e).bind fun d e => ((rdz 2 e).bind fun d e => lft (Option.map some (asI d)) e).bind fun h e => lft (slf d none h) e).map er).bind fun x e => Out.ok [x] e).bind fun xs e => Out.ok (x :: xs) e) e).map er).bind fun y e => lft ((ninf x y).bind asB) e).bind fun c e => if c = true then ((rdz 2 e).map T.fz).bind fun t e => Out.ok (Fl.rt t) e else Out.ok Fl.nx e)
    = if canC z p.2 cs[k] = true then .ok .nx e else .ok (.rt (.fz (.int (k : Int)))) e := by
  subst he
  have h1 : ixf (.lst (cs.map Enc.d)) (.int (k : Int)) = some (Enc.d cs[k]) := by
    rw [ixf_lst _ k (by simpa using hk)]
    simp
  have h2 : cutA (cs.map Enc.d) none (some (k : Int)) = ms.map Mv.d := by
    rw [cut_hi _ _ (by rw [List.length_map]; omega), ← List.map_take, ht, cds_d]
  have h3 := e_couldA hz run (by rw [runz_len run]; omega)
  have h4 := (ninf_could run cs[k] (hf _ (List.getElem_mem hk)) (fit_could run)).1
  cases hc : canC z p.2 cs[k] with
  | true =>
    rw [hc] at h4
    simp -implicitDefEqProofs [h1, h2, h3, h4]
  | false =>
    rw [hc] at h4
    simp -implicitDefEqProofs [h1, h2, h3, h4]
theorem run_rng {N : Nat} : ∀ {k c : Nat}, c + k ≤ N → RunR (fun c (m : Nat) c' => m = c ∧ c < N ∧ c' = c + 1) c (List.range' c k) (c + k)
  | 0, c, _ => .nil
  | k + 1, c, h => by
    rw [List.range'_succ, show c + (k + 1) = (c + 1) + k by omega]
    exact .cons ⟨rfl, by omega, rfl⟩ (run_rng (by omega))
theorem rng_split (k r : Nat) : List.range (k + 1 + r) = List.range' 0 k ++ k :: List.range' (k + 1) r := by
  rw [List.range_eq_range', ← List.range'_succ, show k + 1 + r = k + (r + 1) by omega]
  have := List.range'_append (s := 0) (m := k) (n := r + 1) (step := 1)
  simp only [Nat.one_mul, Nat.zero_add] at this
  rw [← this]
theorem e_first_bad {z : Nat} (hz : z ≤ 10) (cs : List Cd) (hl : cs.length ≤ 90) (hf : ∀ c ∈ cs, Enc.fit c) :
    (∀ ms p, RunZ z ms p → cs = ms.map Mv.cd → semOf 2 1 [] D_law_first_bad.1 [.fz (toldD z), .fz (.lst (cs.map Enc.d))] = .ok (.fz .non) [none, none])
    ∧ (∀ ms p c rest, RunZ z ms p → cs = ms.map Mv.cd ++ c :: rest → canC z p.2 c = false → semOf 2 1 [] D_law_first_bad.1 [.fz (toldD z), .fz (.lst (cs.map Enc.d))] = .ok (.fz (.int (ms.length : Int))) [none, none]) := by
  have hr1 : rng1 [.int ((cs.map (Enc.d : Cd → D)).length : Int)] = some (rngD 0 cs.length) := by rw [List.length_map]; exact rng1_nat _ (by omega)
  constructor
  · intro ms p run h
    rw [show semOf 2 1 [] D_law_first_bad.1 [.fz (toldD z), .fz (.lst (cs.map Enc.d))] = _ from semOf_ok rfl]
    simp only [D_law_first_bad]
    simp -implicitDefEqProofs only [b_ok, m_ok, l_some, small0, small1, small2, small3, if_true, er_fz, er_lst, List.map_cons, List.map_nil]
    simp -implicitDefEqProofs only [startE_eq, List.map_cons, List.map_nil, List.cons_append, List.nil_append, List.replicate, rdz_s, rdz_z, upO_ok, b_ok, l_some, lenf_lst, er_fz, m_ok, hr1, rngD]
    have run2 := run_rng (N := cs.length) (k := cs.length) (c := 0) (by omega)
    rw [Nat.zero_add, ← List.range_eq_range'] at run2
    refine seq_forR (P := fun o => fin [] 2 o = FO.ok (.fz .non) [none, none]) (fun c e => ∃ u, e = [eD (toldD z), eD (.lst (cs.map Enc.d)), u]) run2 ?_ ⟨none, rfl⟩ ?_
    · rintro c i c' e ⟨rfl, hc, rfl⟩ ⟨u, rfl⟩
      have hcm : i < ms.length := by rw [h, List.length_map] at hc; exact hc
      obtain ⟨p', r1, r2⟩ := run_split run i (by omega)
      have ht := fb_turn hz cs hl hf i hc (ms.take i) p' r1 (by rw [h, List.map_take]) (by rw [List.length_take]; omega) _ rfl
      have hci : canC z p'.2 cs[i] = true := by simp only [h, List.getElem_map]; exact r2 hcm
      rw [hci, if_pos rfl] at ht
      exact ⟨[eD (toldD z), eD (.lst (cs.map Enc.d)), eI (0 + (i : Int))], [eD (toldD z), eD (.lst (cs.map Enc.d)), eI (i : Int)], rfl, by rw [Int.zero_add]; exact ht, _, rfl⟩
    · rintro e ⟨u, rfl⟩
      simp -implicitDefEqProofs []
  · intro ms p c rest run h hc
    rw [show semOf 2 1 [] D_law_first_bad.1 [.fz (toldD z), .fz (.lst (cs.map Enc.d))] = _ from semOf_ok rfl]
    simp only [D_law_first_bad]
    simp -implicitDefEqProofs only [b_ok, m_ok, l_some, small0, small1, small2, small3, if_true, er_fz, er_lst, List.map_cons, List.map_nil]
    simp -implicitDefEqProofs only [startE_eq, List.map_cons, List.map_nil, List.cons_append, List.nil_append, List.replicate, rdz_s, rdz_z, upO_ok, b_ok, l_some, lenf_lst, er_fz, m_ok, hr1, rngD]
    have hcl : cs.length = ms.length + 1 + rest.length := by rw [h]; simp; omega
    rw [show List.range cs.length = _ from (congrArg List.range hcl).trans (rng_split _ _), List.map_append, List.map_cons]
    have run2 := run_rng (N := ms.length) (k := ms.length) (c := 0) (by omega)
    rw [Nat.zero_add] at run2
    obtain ⟨e, h1, u, rfl⟩ := forD_relA (gt := gtN 2) (gb := fun env => ((((rdz 1 env).bind fun x e => (rdz 2 e).bind fun y e => lft (ixf x y) e).bind fun x e => ((callG 2 (semOf 2 12 [] D_law_could.1) (fun env => (rdz 0 env).bind fun x e => ((((rdz 1 e).bind fun d e => ((rdz 2 e).bind fun d e => lft (Option.map some (asI d)) e).bind fun h e => lft (slf d none h) e).map er).bind fun x e => Out.ok [x] e).bind fun xs e => Out.ok (x :: xs) e) e).map er).bind fun y e => lft ((ninf x y).bind asB) e).bind fun c e => if c = true then ((rdz 2 e).map T.fz).bind fun t e => Out.ok (Fl.rt t) e else Out.ok Fl.nx e))
      (f := fun i : Nat => D.int (0 + (i : Int))) (fun c e => ∃ u, e = [eD (toldD z), eD (.lst (cs.map Enc.d)), u]) run2 (by
        rintro c i c' e ⟨rfl, hc, rfl⟩ ⟨u, rfl⟩
        have hcl2 : i < cs.length := by omega
        obtain ⟨p', r1, r2⟩ := run_split run i (by omega)
        have ht := fb_turn hz cs hl hf i hcl2 (ms.take i) p' r1 (by rw [h, List.take_append_of_le_length (by rw [List.length_map]; omega), List.map_take]) (by rw [List.length_take]; omega) _ rfl
        have hci : canC z p'.2 cs[i] = true := by
          simp only [h]
          rw [List.getElem_append_left (by rw [List.length_map]; exact hc), List.getElem_map]
          exact r2 hc
        rw [hci, if_pos rfl] at ht
        exact ⟨[eD (toldD z), eD (.lst (cs.map Enc.d)), eI (0 + (i : Int))], [eD (toldD z), eD (.lst (cs.map Enc.d)), eI (i : Int)], rfl, by rw [Int.zero_add]; exact ht, _, rfl⟩) (e := [eD (toldD z), eD (.lst (cs.map Enc.d)), none]) ⟨none, rfl⟩
    rw [h1, forD_cons, gtN_eq]
    have hk : ms.length < cs.length := by omega
    have ht := fb_turn hz cs hl hf ms.length hk ms p run (by rw [h, List.take_append_of_le_length (by rw [List.length_map]; omega), List.take_of_length_le (by rw [List.length_map]; omega)]) rfl _ rfl
    have hci : canC z p.2 cs[ms.length] = false := by
      simp only [h]
      rw [List.getElem_append_right (by rw [List.length_map]; omega)]
      simpa using hc
    rw [hci, if_neg (by decide)] at ht
    simp only [List.set_cons_succ, set0, Int.zero_add]
    rw [ht, lk_rt]
    simp -implicitDefEqProofs []
end K02

end
section
namespace K02
open PySem PySem.Spec PyProof.Rows L2 DL LamX
theorem e_value_eq (t : Th) (hs : Shp t.sh) : semOf 2 0 [] D_Value___eq__.1 [.fz (vaD t), .fz (vaD t)] = .ok (.fz (.bl true)) [none, none] := by
  rw [show semOf 2 0 [] D_Value___eq__.1 [.fz (vaD t), .fz (vaD t)] = _ from semOf_ok rfl]
  simp only [D_Value___eq__]
  have h1 : nef (.tup [t.sh.d, .int (t.g : Int)]) (.tup [t.sh.d, .int (t.g : Int)]) = some (.bl false) := nef_self (α := At × Nat) (t.sh, t.g) ⟨by
    rcases hs with ⟨k, h⟩ | h | h <;> rw [h]
    · exact trivial
    · exact ok_call
    · exact ok_pair, trivial⟩
  have h2 : orF eqf eqL (orT t.o) (orT t.o) = some (.bl true) := by
    cases t.o with
    | none => exact orf_self (α := Tp Nat) eqL ⟨[]⟩ (fun _ h => nomatch h)
    | some q => exact orf_self (α := Tp Nat) eqL ⟨[q.1, q.2]⟩ (fun _ _ => trivial)
  have h3 : isiF tt_Value cc_Value (vaD t) = some true := by rfl
  simp -implicitDefEqProofs [va_shape, va_giver, va_origin, h1, h2, h3]
end K02

end
section
namespace K02
open PySem PySem.Spec PyProof.Rows L2 DL LamX
theorem take_io (ns : List Int) (hL : ns.length ≤ 63) (k : Nat) (many : Int) (hm : 0 < many) : ∃ r : Nat, (r : Int) < many ∧ ∀ (gs : DL.Env → Out (List D)) (a0 : Option Ent) (t0 : T) (tl tl' : DL.Env), gs (a0 :: eT t0 :: tl) = .ok [.int many] (a0 :: eT (drT ns k) :: tl') → callIO2 2 (semOf 2 0 [0] D_law_take.1) 1 gs (a0 :: eT t0 :: tl) = .ok (.fz (.int (r : Int))) (a0 :: eT (drT ns (k + 1)) :: tl') := by
  obtain ⟨r, h1, h2⟩ := e_take ns k many hL hm
  exact ⟨r, h1, fun gs a0 t0 tl tl' hg => io2 (i := 1) rfl hg rfl h2 rfl⟩
theorem pick_io (ns : List Int) (hL : ns.length ≤ 63) (k : Nat) (items : List D) (hm : 0 < items.length) : ∃ (i : Nat) (h : i < items.length), ∀ (gs : DL.Env → Out (List D)) (a0 : Option Ent) (t0 : T) (tl tl' : DL.Env), gs (a0 :: eT t0 :: tl) = .ok [.lst items] (a0 :: eT (drT ns k) :: tl') → callIO2 2 (semOf 2 0 [0] D_law_pick.1) 1 gs (a0 :: eT t0 :: tl) = .ok (.fz items[i]) (a0 :: eT (drT ns (k + 1)) :: tl') := by
  obtain ⟨r, h1, h2⟩ := e_pick ns k items hL hm
  exact ⟨r, h1, fun gs a0 t0 tl tl' hg => io2 (i := 1) rfl hg rfl h2 rfl⟩
theorem course_io (ns : List Int) (hL : ns.length ≤ 63) {z : Nat} (hz : z ≤ 10) (k n : Nat) (hn : n ≤ 90) : ∃ (k' : Nat) (ms : List Mv) (p : Nat × St), RunZ z ms p ∧ p.1 = n ∧ ∀ (gs : DL.Env → Out (List D)) (a0 : Option Ent) (t0 : T) (tl tl' : DL.Env), gs (a0 :: eT t0 :: tl) = .ok [toldD z, .int (n : Int)] (a0 :: eT (drT ns k) :: tl') → callIO2 3 (semOf 3 2 [0] D_law_course.1) 1 gs (a0 :: eT t0 :: tl) = .ok (.fz (.lst (ms.map Mv.d))) (a0 :: eT (drT ns k') :: tl') := by
  obtain ⟨k', ms, p, h1, h2, h3⟩ := e_course ns hL hz k n hn
  exact ⟨k', ms, p, h1, h2, fun gs a0 t0 tl tl' hg => io2 (i := 1) (t := drT ns k) (t' := drT ns k') (xs := [none, none]) rfl hg rfl (by rw [fo_eq]; simp only [List.map_cons, List.map_nil, List.length_cons, List.length_nil, Nat.zero_add, Nat.reduceAdd, if_true]; exact h3) rfl⟩
theorem told_disp (z : Nat) : dispf [(D.str (Str.ofString "size"), D.int (z : Int)), (D.str (Str.ofString "terms"), er (T.dic []))] = some (.dic [(D.str (Str.ofString "size"), D.int (z : Int)), (D.str (Str.ofString "terms"), .dic [])]) := by kernel_rfl
theorem er_told (z : Nat) : er (.dic [(D.str (Str.ofString "size"), D.int (z : Int)), (D.str (Str.ofString "terms"), .dic [])]) = toldD z := by simp [er, toldD]
/-- the held ones, as rows -/
def heldRow : D → D
  | .ins _ [(_, a), (_, b), (_, c)] => .tup [a, b, c]
  | _ => .non
def thRow : D → D
  | .tup [a, b, c] => .tup [a, b, match c with
    | .non => .tup []
    | c => c]
  | _ => .non
theorem rows_eq (s : St) : (vaL s).map heldRow = s.th.map (fun t => D.tup [t.sh.d, .int (t.g : Int), orT t.o]) ∧ (thL s).map thRow = s.th.map (fun t => D.tup [t.sh.d, .int (t.g : Int), orT t.o]) := by
  constructor
  · unfold vaL
    rw [List.map_map]
    rfl
  · unfold thL
    rw [List.map_map]
    refine List.map_congr_left fun t _ => ?_
    obtain ⟨a, b, o⟩ := t
    cases o <;> rfl
theorem nef_rows {s : St} (h : ∀ t ∈ s.th, Shp t.sh) : nef (.lst ((vaL s).map heldRow)) (.lst ((thL s).map thRow)) = some (.bl false) := by
  rw [(rows_eq s).1, (rows_eq s).2]
  have e : s.th.map (fun t => D.tup [t.sh.d, .int (t.g : Int), orT t.o]) = (s.th.map fun t => (⟨t.sh, t.g, match t.o with
    | none => ⟨[]⟩
    | some q => ⟨[q.1, q.2]⟩⟩ : DL.P3 At Nat (Tp Nat))).map Enc.d := by
    rw [List.map_map]
    refine List.map_congr_left fun t _ => ?_
    obtain ⟨a, b, o⟩ := t
    cases o <;> rfl
  rw [e]
  refine nef_self (α := List (DL.P3 At Nat (Tp Nat))) _ fun x hx => ?_
  obtain ⟨t, ht, rfl⟩ := List.mem_map.mp hx
  refine ⟨?_, trivial, fun _ _ => trivial⟩
  rcases h t ht with ⟨k, h⟩ | h | h <;> simp only [h]
  · exact trivial
  · exact ok_call
  · exact ok_pair
theorem nef_moves {z : Nat} {ms : List Mv} {p : Nat × St} (h : ∀ m ∈ ms, Enc.fit m.cd) : nef (.lst (ms.map Mv.d)) (.lst (ms.map Mv.d)) = some (.bl false) := by
  rw [cds_d]
  exact nef_self (α := List Cd) _ fun x hx => by
    obtain ⟨m, hm, rfl⟩ := List.mem_map.mp hx
    exact h m hm
theorem run_fit {z : Nat} {ms : List Mv} {p : Nat × St} (r : RunZ z ms p) : ∀ m ∈ ms, Enc.fit m.cd := by
  have gen : ∀ {p q : Nat × St} {ms : List Mv}, Run (· ∈ shL z) p ms q → ∀ m ∈ ms, Enc.fit m.cd := by
    intro p q ms r
    induction r with
    | nil => intro m hm; cases hm
    | cons a _ ih =>
      intro m hm
      rcases List.mem_cons.mp hm with rfl | hm
      · exact fit_can a.2.2.1
      · exact ih m hm
  exact gen r
theorem nef_calls (s : St) : nef (.lst (caL s)) (.lst (caL s)) = some (.bl false) := nef_self (α := List (Nat × Bool)) s.ca fun _ _ => ⟨trivial, trivial⟩
theorem pick_could0 (z : Nat) (ms : List Mv) (s : St) : pick ms_could (Str.ofString "could") (.fz (coD z ms s)) = some (semOf 1 8 [] D_Course_could.1) := by
  have h : pick ms_could (Str.ofString "could") (.fz (coD z ms s)) = ms_could 3 := by rfl
  rw [h]
  rfl
def asLst : D → D
  | .tup xs => .lst xs
  | d => d
theorem cd_lst (m : Mv) : cdK false m.cd = asLst m.d := by
  rw [← cd_d m]
  obtain ⟨w, xs⟩ := m
  generalize hc : (Mv.mk w xs).cd = c
  cases c with
  | none => cases hc
  | some t => rfl
theorem cds_lst (ms : List Mv) : (ms.map Mv.cd).map (cdK false) = (ms.map Mv.d).map asLst := by
  rw [List.map_map, List.map_map]
  exact List.map_congr_left fun m _ => cd_lst m
theorem owf_ok {ms : Nat → Option (List T → FO)} {neg k : Bool} {c c' : Nat} {fs gs : List (Str × D)} {sem : List T → FO} {ts : List (Option T)} (h1 : ms c = some sem) (h2 : sem [.fz (.ins c fs), .fz (.ins c' gs)] = .ok (.fz (.bl k)) ts) : owf ms neg (.ins c fs) (.ins c' gs) = some (.bl (if neg then !k else k)) := by
  unfold owf
  simp only [h1, h2]
theorem va_ne (t : Th) (hs : Shp t.sh) : orF nef (owf ms_eq true) (vaD t) (vaD t) = some (.bl false) := by
  have h : owf ms_eq true (vaD t) (vaD t) = some (.bl false) := owf_ok (c := 2) (c' := 2) (k := true) (sem := semOf 2 0 [] D_Value___eq__.1) (ts := [none, none]) rfl (e_value_eq t hs)
  unfold orF
  rw [show nef (vaD t) (vaD t) = none from rfl]
  exact h
theorem tru_or (o : Option (Nat × Nat)) : truD (orD o) = some (decide (o ≠ none)) := by
  cases o <;> rfl
theorem th_ix0 (t : Th) : ixf t.d (.int 0) = some t.sh.d := by simp [Th.d]
theorem th_ix1 (t : Th) : ixf t.d (.int 1) = some (.int (t.g : Int)) := by simp [Th.d]
theorem th_ix2 (t : Th) : ixf t.d (.int 2) = some (orD t.o) := by simp [Th.d]
theorem pick_io2 (ns : List Int) (hL : ns.length ≤ 63) (k : Nat) (items : List D) (hm : 0 < items.length) (Q : D → Prop) (hQ : ∀ x ∈ items, Q x) : ∃ x : D, Q x ∧ ∀ (gs : DL.Env → Out (List D)) (a0 : Option Ent) (t0 : T) (tl tl' : DL.Env), gs (a0 :: eT t0 :: tl) = .ok [.lst items] (a0 :: eT (drT ns k) :: tl') → callIO2 2 (semOf 2 0 [0] D_law_pick.1) 1 gs (a0 :: eT t0 :: tl) = .ok (.fz x) (a0 :: eT (drT ns (k + 1)) :: tl') := by
  obtain ⟨i, h, q⟩ := pick_io ns hL k items hm
  exact ⟨items[i], hQ _ (List.getElem_mem h), q⟩
def wordsD : List D := [.str (Str.ofString "give"), .str (Str.ofString "call"), .str (Str.ofString "answer"), .str (Str.ofString "left"), .str (Str.ofString "right"), .str (Str.ofString "use"), .str (Str.ofString "zz")]
theorem wordsD_ok : ∀ x ∈ wordsD, ∃ w, PyData.strOk w = true ∧ x = .str w := by
  intro x hx
  simp only [wordsD, List.mem_cons, List.not_mem_nil, or_false] at hx
  rcases hx with rfl | rfl | rfl | rfl | rfl | rfl | rfl
  · exact ⟨_, ok_give, rfl⟩
  · exact ⟨_, ok_call, rfl⟩
  · exact ⟨_, ok_answer, rfl⟩
  · exact ⟨_, ok_left, rfl⟩
  · exact ⟨_, ok_right, rfl⟩
  · exact ⟨_, ok_use, rfl⟩
  · exact ⟨_, ok_zz, rfl⟩
def shapesD (z : Nat) : List D := (shL z ++ [At.n 9, At.s (Str.ofString "zz")]).map At.d
theorem shapesD_ok (z : Nat) : ∀ x ∈ shapesD z, ∃ a : At, Enc.fit (some a) ∧ x = a.d := by
  intro x hx
  obtain ⟨a, ha, rfl⟩ := List.mem_map.mp hx
  refine ⟨a, ?_, rfl⟩
  rcases List.mem_append.mp ha with h | h
  · exact fit_sh h
  · simp only [List.mem_cons, List.not_mem_nil, or_false] at h
    rcases h with rfl | rfl
    · exact trivial
    · exact ok_zz
theorem shapesD_add (z : Nat) (hz : z ≤ 10) : addf (.lst ((shL z).map At.d)) (.lst [.int 9, .str (Str.ofString "zz")]) = some (.lst (shapesD z)) := by
  rw [addf_lst _ _ (by simp [shL_len]; omega)]
  simp [shapesD, At.d]
theorem shapesD_pos (z : Nat) : 0 < (shapesD z).length := by simp [shapesD]
/-- a drawn candidate -/
def CandD (x : D) : Prop := ∃ c : Cd, Enc.fit c ∧ x = Enc.d c
theorem cand_ok (w1 w2 w3 : Str) (h1 : PyData.strOk w1 = true) (h2 : PyData.strOk w2 = true) (h3 : PyData.strOk w3 = true) (n1 n2 : Nat) (a1 a3 : At) (g1 : Enc.fit (some a1)) (g3 : Enc.fit (some a3)) :
    ∀ x ∈ [D.tup [.str w1, .int (n1 : Int), a1.d], .tup [.str w2, .int (n2 : Int)], .tup [.str w3, a3.d], .non, .tup [], .tup [.non, .int 0, .int 0]], CandD x := by
  have fw : ∀ w : Str, PyData.strOk w = true → Enc.fit (some (At.s w)) := fun w h => h
  have fn : ∀ n : Nat, Enc.fit (some (At.n n)) := fun n => trivial
  intro x hx
  simp only [List.mem_cons, List.not_mem_nil, or_false] at hx
  rcases hx with rfl | rfl | rfl | rfl | rfl | rfl
  · refine ⟨some ⟨[some (.s w1), some (.n n1), some a1]⟩, fun y hy => ?_, rfl⟩
    simp only [List.mem_cons, List.not_mem_nil, or_false] at hy
    rcases hy with rfl | rfl | rfl
    · exact fw _ h1
    · exact fn _
    · exact g1
  · refine ⟨some ⟨[some (.s w2), some (.n n2)]⟩, fun y hy => ?_, rfl⟩
    simp only [List.mem_cons, List.not_mem_nil, or_false] at hy
    rcases hy with rfl | rfl
    · exact fw _ h2
    · exact fn _
  · refine ⟨some ⟨[some (.s w3), some a3]⟩, fun y hy => ?_, rfl⟩
    simp only [List.mem_cons, List.not_mem_nil, or_false] at hy
    rcases hy with rfl | rfl
    · exact fw _ h3
    · exact g3
  · exact ⟨none, trivial, rfl⟩
  · exact ⟨some ⟨[]⟩, (fun y hy => nomatch hy), rfl⟩
  · refine ⟨some ⟨[none, some (.n 0), some (.n 0)]⟩, fun y hy => ?_, rfl⟩
    simp only [List.mem_cons, List.not_mem_nil, or_false] at hy
    rcases hy with rfl | rfl | rfl
    · exact trivial
    · exact fn 0
    · exact fn 0
theorem row_true (cs : List Cd) : rowK false (cs.map (cdK true)) = .lst (cs.map Enc.d) := by
  have h : cs.map (cdK true) = cs.map Enc.d := List.map_congr_left fun c _ => cdK_true c
  rw [h]
  rfl
theorem cand_end {z : Nat} (hz : z ≤ 10) (cs : List Cd) (hcl : cs.length ≤ 90) (hcf2 : ∀ y ∈ cs, Enc.fit y) (hw : ∀ y ∈ cs, fitW y) : ∃ (bad : D) (b : Bool), isN bad .non = some (.bl b) ∧ isNN bad .non = some (.bl (!b)) ∧ semOf 2 1 [] D_law_first_bad.1 [.fz (toldD z), .fz (.lst (cs.map Enc.d))] = .ok (.fz bad) [none, none] ∧ semOf 2 0 [] D_is_course.1 [.fz (.int (z : Int)), .fz (.lst (cs.map Enc.d))] = .ok (.fz (.bl b)) [none, none] ∧ ((b = true ∧ ∃ r, semOf 2 2 [] D_made.1 [.fz (.int (z : Int)), .fz (.lst (cs.map Enc.d))] = .ok (.fz r) [none, none]) ∨ (b = false ∧ ∃ n : Nat, bad = .int (n : Int) ∧ semOf 2 2 [] D_made.1 [.fz (.int (z : Int)), .fz (.lst (cs.map Enc.d))] = .exc ⟨1, [("number", .int (n : Int))]⟩)) := by
  have hm := e_made (z := z) true false cs (by omega) hw
  rw [row_true] at hm
  have hb := e_first_bad (z := z) hz cs hcl hcf2
  cases split (z := z) cs (by omega) with
  | all ms' p' run' h =>
    exact ⟨.non, true, rfl, rfl, hb.1 ms' p' run' h, e_is_course_ok _ _ _ (hm.1 ms' p' run' h), .inl ⟨rfl, _, hm.1 ms' p' run' h⟩⟩
  | bad ms' p' c' rest run' h hc =>
    exact ⟨.int (ms'.length : Int), false, rfl, rfl, hb.2 ms' p' c' rest run' h hc, e_is_course_bad _ _ _ (hm.2 ms' p' c' rest run' h hc), .inr ⟨rfl, ms'.length, rfl, hm.2 ms' p' c' rest run' h hc⟩⟩
end K02

end
section
namespace K02
open PySem PySem.Spec PyProof.Rows L2 DL LamX
theorem e_pcould0 {z : Nat} (hz : z ≤ 10) : semOf 1 8 [] D_Course_could.1 [.fz (coGD z [] [] [])] = .ok (.lst ((couldL (shL z) ⟨[], []⟩).map Mv.d)) [none] := by
  rw [show semOf 1 8 [] D_Course_could.1 [.fz (coGD z [] [] [])] = _ from semOf_ok rfl]
  simp only [D_Course_could]
  simp -implicitDefEqProofs only [b_ok, m_ok, l_some, small0, small1, small2, small3, if_true, er_fz, er_lst, List.map_cons, List.map_nil]
  refine seq_step [eD (coGD z [] [] []), eD (.lst (shD z)), none, none, none, none, none, none, none] (P := fun o => fin [] 1 o = FO.ok (.lst ((couldL (shL z) ⟨[], []⟩).map Mv.d)) [none]) ?_ ?_
  · simp -implicitDefEqProofs [cg_size, okRg_nat z (by omega), rgD_nat]
    rw [small_le (by simp; omega)]
    simp -implicitDefEqProofs [shD, shL, At.d]
  have hl : (shD z).length ≤ sizeLine := by
    rw [shD, List.length_map, shL_len]
    exact Nat.le_trans (show z + 2 ≤ 12 by omega) (by decide)
  have hc := compG_map (gi := fun env => (rdz 1 env).bind fun d e => lft (iterD d) e) (gt := gtN 2) (gc := fun e => Out.ok true e)
    (ge := fun env => (((rdz 2 env).bind fun x e => Out.ok [x] e).bind fun xs e => Out.ok (D.str (Str.ofString "give") :: xs) e).bind fun ds e => if small ds = true then Out.ok (D.tup ds) e else Out.fail) (vs := [2])
    (env := [eD (coGD z [] [] []), eD (.lst (shD z)), none, none, none, none, none, none, none]) [eD (coGD z [] [] []), eD (.lst (shD z)), none, none, none, none, none, none, none] (shD z) (fun d => .tup [.str (Str.ofString "give"), d]) (by simp -implicitDefEqProofs []) (fun _ => rfl)
    (fun d _ => ⟨[eD (coGD z [] [] []), eD (.lst (shD z)), eD d, none, none, none, none, none, none], rfl, by simp -implicitDefEqProofs [], rfl⟩) hl
  have he : (shD z).map (fun d => D.tup [.str (Str.ofString "give"), d]) = (couldL (shL z) ⟨[], []⟩).map Mv.d := by
    rw [couldL, if_pos rfl, shD, List.map_map, List.map_map]
    rfl
  rw [he] at hc
  have h0 := eq_nil ([] : List D)
  simp -implicitDefEqProofs only [rdz_z, b_ok, cg_held, l_some, h0, Option.bind_some, asB_bl, decide_true, if_true]
  rw [hc]
  simp -implicitDefEqProofs []
theorem in0 {z : Nat} (h : 0 < z) : At.n 0 ∈ shL z := List.mem_append_left _ (List.mem_map.mpr ⟨0, List.mem_range.mpr h, rfl⟩)
theorem inC {z : Nat} : At.s (Str.ofString "call") ∈ shL z := List.mem_append_right _ (by simp)
theorem inP {z : Nat} : At.s (Str.ofString "pair") ∈ shL z := List.mem_append_right _ (by simp)
def tA : Th := ⟨.s (Str.ofString "call"), 0, none⟩
def tB : Th := ⟨.n 0, 1, some (0, 1)⟩
def tC : Th := ⟨.s (Str.ofString "pair"), 0, some (0, 2)⟩
def sA : St := ⟨[tA], []⟩
def sB : St := ⟨[tA, tB], [(0, false)]⟩
def sC : St := ⟨[tA, tB, tC], [(0, true)]⟩
def mA : Mv := ⟨Str.ofString "give", [.s (Str.ofString "call")]⟩
def mB : Mv := ⟨Str.ofString "call", [.n 0, .n 0]⟩
def mC : Mv := ⟨Str.ofString "answer", [.n 0, .s (Str.ofString "pair")]⟩
def mE : Mv := ⟨Str.ofString "use", [.n 1]⟩
theorem canA {z : Nat} : Can (· ∈ shL z) ⟨[], []⟩ mA sA := .give inC
theorem canB {z : Nat} (h : 0 < z) : Can (· ∈ shL z) sA mB sB := .call (s := sA) (t := 0) (by decide) (in0 h) rfl
theorem canCc {z : Nat} : Can (· ∈ shL z) sB mC sC := .answer (s := sB) (c := 0) (by decide) (by decide) inP rfl
theorem canE {z : Nat} : Can (· ∈ shL z) sC mE sC := .use (s := sC) (t := 1) (by decide)
theorem shp0 (t : Th) (h : t ∈ [tA, tB, tC]) : Shp t.sh := by
  simp only [List.mem_cons, List.not_mem_nil, or_false] at h
  rcases h with rfl | rfl | rfl
  · exact .inr (.inl rfl)
  · exact .inl ⟨0, rfl⟩
  · exact .inr (.inr rfl)
theorem fine_all : Fine ⟨[], []⟩ 402 ∧ Fine sA 402 ∧ Fine sB 402 ∧ Fine sC 402 := by
  refine ⟨⟨by simp, by simp, by simp, by simp⟩, ⟨?_, by simp [sA], by simp [sA], by simp [sA]⟩, ⟨?_, by simp [sB], by simp [sB], by simp [sB]⟩, ⟨?_, by simp [sC], by simp [sC], by simp [sC]⟩⟩ <;> intro t ht <;> simp only [sA, sB, sC, List.mem_cons, List.not_mem_nil, or_false] at ht
  · subst ht; decide
  · rcases ht with rfl | rfl <;> decide
  · rcases ht with rfl | rfl | rfl <;> decide
theorem mkA (z : Nat) : semOf 2 4 [0] D_Course_make.1 [coG z [] [] [], .fz (.tup [.str (Str.ofString "give"), .str (Str.ofString "call")])] = .ok (.fz (.int 0)) [some (coT z [mA] sA), none] :=
  e_make true z [] ⟨[], []⟩ sA mA (by simp) canA (by simp) fine_all.1
theorem mkB (z : Nat) (h : 0 < z) : semOf 2 4 [0] D_Course_make.1 [coT z [mA] sA, .fz (.tup [.str (Str.ofString "call"), .int 0, .int 0])] = .ok (.fz (.int 1)) [some (coT z [mA, mB] sB), none] :=
  e_make true z [mA] sA sB mB (fun t ht => shp0 t (by simp [sA] at ht; simp [ht])) (canB h) (by simp) fine_all.2.1
theorem mkC (z : Nat) : semOf 2 4 [0] D_Course_make.1 [coT z [mA, mB] sB, .fz (.tup [.str (Str.ofString "answer"), .int 0, .str (Str.ofString "pair")])] = .ok (.fz (.int 2)) [some (coT z [mA, mB, mC] sC), none] :=
  e_make true z [mA, mB] sB sC mC (fun t ht => shp0 t (by simp [sB] at ht; rcases ht with rfl | rfl <;> simp)) canCc (by simp) fine_all.2.2.1
theorem mkE (z : Nat) : semOf 2 4 [0] D_Course_make.1 [coT z [mA, mB, mC] sC, .fz (.tup [.str (Str.ofString "use"), .int 1])] = .ok (.fz (.int 1)) [some (coT z [mA, mB, mC, mE] sC), none] :=
  e_make true z [mA, mB, mC] sC sC mE (fun t ht => shp0 t ht) canE (by simp) fine_all.2.2.2
theorem canN (z : Nat) (ms : List Mv) : semOf 2 1 [] D_Course_can.1 [.fz (coD z ms sC), .fz (.tup [.str (Str.ofString "answer"), .int 0, .int 0])] = .ok (.fz (.bl false)) [none, none] := by
  have h := e_can true z ms sC (some ⟨[some (.s (Str.ofString "answer")), some (.n 0), some (.n 0)]⟩) ok_answer shp0
  rw [show canC z sC (some ⟨[some (.s (Str.ofString "answer")), some (.n 0), some (.n 0)]⟩) = false by
    simp [canC, cw, sC, openAt]] at h
  exact h
theorem canY (z : Nat) (hz : 0 < z) (ms : List Mv) : semOf 2 1 [] D_Course_can.1 [.fz (coD z ms sC), .fz (.tup [.str (Str.ofString "left"), .int 2, .int 0])] = .ok (.fz (.bl true)) [none, none] := by
  have h := e_can true z ms sC (some ⟨[some (.s (Str.ofString "left")), some (.n 2), some (.n 0)]⟩) ok_left shp0
  rw [show canC z sC (some ⟨[some (.s (Str.ofString "left")), some (.n 2), some (.n 0)]⟩) = true by
    simp [canC, cw, sC, shAt, isSh, hz, tC]] at h
  exact h
end K02

end
section
namespace K02
open PySem PySem.Spec PyProof.Rows L2 DL LamX
theorem fit_w {c : Cd} (h : Enc.fit c) : fitW c := by
  rcases c with _ | ⟨_ | ⟨_ | (k | w), r⟩⟩
  · trivial
  · trivial
  · trivial
  · trivial
  · exact h (some (.s w)) (by simp)
theorem law_holds : Law := by
  intro cl ns hL hb
  rw [show semOf 1 24 [] (D_law.1 cl) [.fz (.scr ns)] = _ from semOf_ok rfl]
  simp only [D_law]
  simp -implicitDefEqProofs only [b_ok, m_ok, l_some, small0, small1, small2, small3, if_true, er_fz, er_lst, List.map_cons, List.map_nil]
  refine seq_step (P := fun o => fin [] 1 o = FO.ok (.fz (.bl true)) [none]) [eD (.scr ns), eT (drT ns 0), none, none, none, none, none, none, none, none, none, none, none, none, none, none, none, none, none, none, none, none, none, none, none] (by simp -implicitDefEqProofs []) ?_
  obtain ⟨r, hr, t1⟩ := take_io ns hL 0 3 (by decide)
  refine seq_step (P := fun o => fin [] 1 o = FO.ok (.fz (.bl true)) [none]) [eD (.scr ns), eT (drT ns 1), eD (toldD (r + 1)), none, none, none, none, none, none, none, none, none, none, none, none, none, none, none, none, none, none, none, none, none, none] ?_ ?_
  · rw [t1 _ _ _ _ _ rfl]
    have e : (1 : Int) + (r : Int) = ((r + 1 : Nat) : Int) := by omega
    simp -implicitDefEqProofs [e, told_disp, er_told, -Int.natCast_add]
  have hz : r + 1 ≤ 10 := by omega
  generalize hzz : r + 1 = z at hz
  obtain ⟨r2, hr2, t2⟩ := take_io ns hL 1 10 (by decide)
  obtain ⟨k, ms, p, run, hp, c1⟩ := course_io ns hL hz 2 (r2 + 1) (by omega)
  have hml : ms.length ≤ 10 := by have := runz_len run; omega
  refine seq_step (P := fun o => fin [] 1 o = FO.ok (.fz (.bl true)) [none]) [eD (.scr ns), eT (drT ns k), eD (toldD z), eD (.lst (ms.map Mv.d)), none, none, none, none, none, none, none, none, none, none, none, none, none, none, none, none, none, none, none, none, none] ?_ ?_
  · have e : (1 : Int) + (r2 : Int) = ((r2 + 1 : Nat) : Int) := by omega
    rw [c1 _ _ _ _ [none, none, eD (toldD z), none, none, none, none, none, none, none, none, none, none, none, none, none, none, none, none, none, none, none, none, none, none].tail.tail ?_]
    · simp -implicitDefEqProofs []
    · show (Out.bind _ _) = _
      simp -implicitDefEqProofs only [rdz_s, rdz_z, upO_ok, b_ok]
      rw [t2 _ _ _ _ _ rfl]
      simp -implicitDefEqProofs [e, -Int.natCast_add]
  have hfit := run_fit run
  have hsh := runz_shp run
  have hfine := (runz_fine run).mono (show p.1 ≤ 100 by omega)
  have hmade : semOf 2 2 [] D_made.1 [.fz (.int (z : Int)), .fz (.lst (ms.map Mv.d))] = .ok (.fz (coD z ms p.2)) [none, none] := by
    have h := (e_made (z := z) true false (ms.map Mv.cd) (by rw [List.length_map]; omega) (fun c hc => by
      obtain ⟨m, hm, rfl⟩ := List.mem_map.mp hc
      exact fit_w (hfit m hm))).1 ms p run rfl
    rw [show rowK false ((ms.map Mv.cd).map (cdK true)) = .lst (ms.map Mv.d) by
      rw [cds_d]
      show D.lst _ = _
      congr 1
      exact List.map_congr_left fun c _ => cdK_true c] at h
    exact h
  refine seq_step (P := fun o => fin [] 1 o = FO.ok (.fz (.bl true)) [none]) [eD (.scr ns), eT (drT ns k), eD (toldD z), eD (.lst (ms.map Mv.d)), eD (coD z ms p.2), none, none, none, none, none, none, none, none, none, none, none, none, none, none, none, none, none, none, none, none] ?_ ?_
  · simp -implicitDefEqProofs [dg_size, hmade]
  have hth := e_things run
  refine seq_step (P := fun o => fin [] 1 o = FO.ok (.fz (.bl true)) [none]) [eD (.scr ns), eT (drT ns k), eD (toldD z), eD (.lst (ms.map Mv.d)), eD (coD z ms p.2), eD (.lst (thL p.2)), eD (.lst (caL p.2)), none, none, none, none, none, none, none, none, none, none, none, none, none, none, none, none, none, none] ?_ ?_
  · simp -implicitDefEqProofs [hth]
  have hmv : nef (.lst (ms.map Mv.d)) (.lst (ms.map Mv.d)) = some (.bl false) := nef_moves (z := z) (p := p) hfit
  have hlf : ∀ xs, listf [.tup xs] = some (.lst xs) := fun _ => rfl
  have hlf2 : ∀ xs, listf [.lst xs] = some (.lst xs) := fun _ => rfl
  refine seq_step (P := fun o => fin [] 1 o = FO.ok (.fz (.bl true)) [none]) [eD (.scr ns), eT (drT ns k), eD (toldD z), eD (.lst (ms.map Mv.d)), eD (coD z ms p.2), eD (.lst (thL p.2)), eD (.lst (caL p.2)), none, none, none, none, none, none, none, none, none, none, none, none, none, none, none, none, none, none] ?_ ?_
  · have c1 := compG_fm (vs := [7]) (gt := gtN 7) (gc := fun e => Out.ok true e)
      (gi := fun env => ((rdz 4 env).bind fun d e => lft (attD cs_held (Str.ofString "held") d) e).bind fun d e => lft (iterD d) e)
      (ge := fun env => (((rdz 7 env).bind fun d e => lft (attD cs_shape (Str.ofString "shape") d) e).bind fun x e => (((rdz 7 e).bind fun d e => lft (attD cs_giver (Str.ofString "giver") d) e).bind fun x e => (((rdz 7 e).bind fun d e => lft (attD cs_origin (Str.ofString "origin") d) e).bind fun x e => Out.ok [x] e).bind fun xs e => Out.ok (x :: xs) e).bind fun xs e => Out.ok (x :: xs) e).bind fun ds e => if small ds = true then Out.ok (D.tup ds) e else Out.fail)
      (env := [eD (.scr ns), eT (drT ns k), eD (toldD z), eD (.lst (ms.map Mv.d)), eD (coD z ms p.2), eD (.lst (thL p.2)), eD (.lst (caL p.2)), none, none, none, none, none, none, none, none, none, none, none, none, none, none, none, none, none, none]) [eD (.scr ns), eT (drT ns k), eD (toldD z), eD (.lst (ms.map Mv.d)), eD (coD z ms p.2), eD (.lst (thL p.2)), eD (.lst (caL p.2)), none, none, none, none, none, none, none, none, none, none, none, none, none, none, none, none, none, none] (vaL p.2) (fun d => some (heldRow d)) (by simp -implicitDefEqProofs [co_held]) (fun d hd => by
        obtain ⟨t, ht, rfl⟩ := List.mem_map.mp hd
        refine ⟨[eD (.scr ns), eT (drT ns k), eD (toldD z), eD (.lst (ms.map Mv.d)), eD (coD z ms p.2), eD (.lst (thL p.2)), eD (.lst (caL p.2)), eD (vaD t), none, none, none, none, none, none, none, none, none, none, none, none, none, none, none, none, none], rfl, true, _, rfl, (fun h => nomatch h), fun _ => ⟨heldRow (vaD t), [eD (.scr ns), eT (drT ns k), eD (toldD z), eD (.lst (ms.map Mv.d)), eD (coD z ms p.2), eD (.lst (thL p.2)), eD (.lst (caL p.2)), eD (vaD t), none, none, none, none, none, none, none, none, none, none, none, none, none, none, none, none, none], ?_, rfl, rfl⟩⟩
        simp -implicitDefEqProofs [va_shape, va_giver, va_origin]
        rfl) (by rw [vaL_len]; exact Nat.le_trans hfine.n1 (by decide))
    have c2 := compG_fm (vs := [8, 9, 10]) (gt := gtTup 3 (gtCons (gtN 8) (gtCons (gtN 9) (gtCons (gtN 10) gtNil)))) (gc := fun e => Out.ok true e)
      (gi := fun env => (rdz 5 env).bind fun d e => lft (iterD d) e)
      (ge := fun env => ((rdz 8 env).bind fun x e => ((rdz 9 e).bind fun x e => ((((rdz 10 e).bind fun x e => lft ((isNN x D.non).bind asB) e).bind fun c e => if c = true then rdz 10 e else Out.ok (D.tup []) e).bind fun x e => Out.ok [x] e).bind fun xs e => Out.ok (x :: xs) e).bind fun xs e => Out.ok (x :: xs) e).bind fun ds e => if small ds = true then Out.ok (D.tup ds) e else Out.fail)
      (env := [eD (.scr ns), eT (drT ns k), eD (toldD z), eD (.lst (ms.map Mv.d)), eD (coD z ms p.2), eD (.lst (thL p.2)), eD (.lst (caL p.2)), none, none, none, none, none, none, none, none, none, none, none, none, none, none, none, none, none, none]) [eD (.scr ns), eT (drT ns k), eD (toldD z), eD (.lst (ms.map Mv.d)), eD (coD z ms p.2), eD (.lst (thL p.2)), eD (.lst (caL p.2)), none, none, none, none, none, none, none, none, none, none, none, none, none, none, none, none, none, none] (thL p.2) (fun d => some (thRow d)) (by simp -implicitDefEqProofs []) (fun d hd => by
        obtain ⟨t, ht, rfl⟩ := List.mem_map.mp hd
        refine ⟨[eD (.scr ns), eT (drT ns k), eD (toldD z), eD (.lst (ms.map Mv.d)), eD (coD z ms p.2), eD (.lst (thL p.2)), eD (.lst (caL p.2)), none, eD t.sh.d, eI (t.g : Int), eD (orD t.o), none, none, none, none, none, none, none, none, none, none, none, none, none, none], rfl, true, _, rfl, (fun h => nomatch h), fun _ => ⟨thRow t.d, [eD (.scr ns), eT (drT ns k), eD (toldD z), eD (.lst (ms.map Mv.d)), eD (coD z ms p.2), eD (.lst (thL p.2)), eD (.lst (caL p.2)), none, eD t.sh.d, eI (t.g : Int), eD (orD t.o), none, none, none, none, none, none, none, none, none, none, none, none, none, none], ?_, rfl, rfl⟩⟩
        have hn := isNN_or t.o
        obtain ⟨a, b, o⟩ := t
        cases o with
        | none => simp -implicitDefEqProofs [hn]; rfl
        | some q => simp -implicitDefEqProofs [hn]; rfl) (by rw [show (thL p.2).length = p.2.th.length by simp [thL]]; exact Nat.le_trans hfine.n1 (by decide))
    have hrow := nef_rows (s := p.2) hsh
    simp -implicitDefEqProofs only [rdz_s, rdz_z, upO_ok, b_ok, co_moves, hlf, hmv, l_some, m_ok, er_lst, er_fz, asB_bl, Option.bind_some, if_false, Bool.false_eq_true, startE_eq]
    rw [c1, show restE [eD (.scr ns), eT (drT ns k), eD (toldD z), eD (.lst (ms.map Mv.d)), eD (coD z ms p.2), eD (.lst (thL p.2)), eD (.lst (caL p.2)), none, none, none, none, none, none, none, none, none, none, none, none, none, none, none, none, none, none] (wipeE [eD (.scr ns), eT (drT ns k), eD (toldD z), eD (.lst (ms.map Mv.d)), eD (coD z ms p.2), eD (.lst (thL p.2)), eD (.lst (caL p.2)), none, none, none, none, none, none, none, none, none, none, none, none, none, none, none, none, none, none] [7]) [7] = [eD (.scr ns), eT (drT ns k), eD (toldD z), eD (.lst (ms.map Mv.d)), eD (coD z ms p.2), eD (.lst (thL p.2)), eD (.lst (caL p.2)), none, none, none, none, none, none, none, none, none, none, none, none, none, none, none, none, none, none] from rfl, m_ok, b_ok, c2, show restE [eD (.scr ns), eT (drT ns k), eD (toldD z), eD (.lst (ms.map Mv.d)), eD (coD z ms p.2), eD (.lst (thL p.2)), eD (.lst (caL p.2)), none, none, none, none, none, none, none, none, none, none, none, none, none, none, none, none, none, none] (wipeE [eD (.scr ns), eT (drT ns k), eD (toldD z), eD (.lst (ms.map Mv.d)), eD (coD z ms p.2), eD (.lst (thL p.2)), eD (.lst (caL p.2)), none, none, none, none, none, none, none, none, none, none, none, none, none, none, none, none, none, none] [8, 9, 10]) [8, 9, 10] = [eD (.scr ns), eT (drT ns k), eD (toldD z), eD (.lst (ms.map Mv.d)), eD (coD z ms p.2), eD (.lst (thL p.2)), eD (.lst (caL p.2)), none, none, none, none, none, none, none, none, none, none, none, none, none, none, none, none, none, none] from rfl, m_ok, b_ok, er_lst, er_lst, List.filterMap_eq_map', List.filterMap_eq_map', hrow]
    simp -implicitDefEqProofs []
  have hcould : semOf 1 8 [] D_Course_could.1 [.fz (coD z ms p.2)] = .ok (.lst ((couldL (shL z) p.2).map Mv.d)) [none] := e_pcould hz ms p.2 (by
    cases ms with
    | nil => have := runz_len run; simp at this; omega
    | cons m ms => exact run_ne run) hsh hfine
  have hlaw := e_couldA hz run (by omega)
  have hnc : nef (.lst ((couldL (shL z) p.2).map Mv.d)) (.lst ((couldL (shL z) p.2).map Mv.d)) = some (.bl false) := nef_moves (z := z) (p := p) (fit_could run)
  have his := e_is_course_ok _ _ _ hmade
  have hmade2 : semOf 2 2 [] D_made.1 [.fz (.int (z : Int)), .fz (.tup ((ms.map Mv.d).map asLst))] = .ok (.fz (coD z ms p.2)) [none, none] := by
    have h := (e_made (z := z) false true (ms.map Mv.cd) (by rw [List.length_map]; omega) (fun c hc => by
      obtain ⟨m, hm, rfl⟩ := List.mem_map.mp hc
      exact fit_w (hfit m hm))).1 ms p run rfl
    rw [cds_lst] at h
    exact h
  have his2 := e_is_course_ok _ _ _ hmade2
  refine seq_step (P := fun o => fin [] 1 o = FO.ok (.fz (.bl true)) [none]) [eD (.scr ns), eT (drT ns k), eD (toldD z), eD (.lst (ms.map Mv.d)), eD (coD z ms p.2), eD (.lst (thL p.2)), eD (.lst (caL p.2)), none, none, none, none, none, none, none, none, none, none, none, none, none, none, none, none, none, none] ?_ ?_
  · have hcc := nef_calls p.2
    simp -implicitDefEqProofs [co_calls, hlf2, hcc, pick_could0, hcould, hlaw, hnc, dg_size, his]
    have c3 := compG_fm (vs := [11]) (gt := gtN 11) (gc := fun e => Out.ok true e) (gi := fun env => (rdz 3 env).bind fun d e => lft (iterD d) e)
      (ge := fun env => (((rdz 11 env).bind fun x e => Out.ok [x] e).bind fun ds e => lft (listf ds) e).map er)
      (env := [eD (.scr ns), eT (drT ns k), eD (toldD z), eD (.lst (ms.map Mv.d)), eD (coD z ms p.2), eD (.lst (thL p.2)), eD (.lst (caL p.2)), none, none, none, none, none, none, none, none, none, none, none, none, none, none, none, none, none, none]) [eD (.scr ns), eT (drT ns k), eD (toldD z), eD (.lst (ms.map Mv.d)), eD (coD z ms p.2), eD (.lst (thL p.2)), eD (.lst (caL p.2)), none, none, none, none, none, none, none, none, none, none, none, none, none, none, none, none, none, none] (ms.map Mv.d) (fun d => some (asLst d)) (by simp -implicitDefEqProofs []) (fun d hd => by
        obtain ⟨m, hm, rfl⟩ := List.mem_map.mp hd
        refine ⟨[eD (.scr ns), eT (drT ns k), eD (toldD z), eD (.lst (ms.map Mv.d)), eD (coD z ms p.2), eD (.lst (thL p.2)), eD (.lst (caL p.2)), none, none, none, none, eD m.d, none, none, none, none, none, none, none, none, none, none, none, none, none], rfl, true, _, rfl, (fun h => nomatch h), fun _ => ⟨asLst m.d, [eD (.scr ns), eT (drT ns k), eD (toldD z), eD (.lst (ms.map Mv.d)), eD (coD z ms p.2), eD (.lst (thL p.2)), eD (.lst (caL p.2)), none, none, none, none, eD m.d, none, none, none, none, none, none, none, none, none, none, none, none, none], ?_, rfl, rfl⟩⟩
        simp -implicitDefEqProofs [show listf [m.d] = some (.lst (.str m.w :: m.xs.map At.d)) from rfl]
        rfl) (by rw [List.length_map]; exact Nat.le_trans hml (by decide))
    rw [c3, show restE [eD (.scr ns), eT (drT ns k), eD (toldD z), eD (.lst (ms.map Mv.d)), eD (coD z ms p.2), eD (.lst (thL p.2)), eD (.lst (caL p.2)), none, none, none, none, none, none, none, none, none, none, none, none, none, none, none, none, none, none] (wipeE [eD (.scr ns), eT (drT ns k), eD (toldD z), eD (.lst (ms.map Mv.d)), eD (coD z ms p.2), eD (.lst (thL p.2)), eD (.lst (caL p.2)), none, none, none, none, none, none, none, none, none, none, none, none, none, none, none, none, none, none] [11]) [11] = [eD (.scr ns), eT (drT ns k), eD (toldD z), eD (.lst (ms.map Mv.d)), eD (coD z ms p.2), eD (.lst (thL p.2)), eD (.lst (caL p.2)), none, none, none, none, none, none, none, none, none, none, none, none, none, none, none, none, none, none] from rfl, m_ok, b_ok, er_lst, List.filterMap_eq_map']
    simp -implicitDefEqProofs [show ∀ xs, tuplef [.lst xs] = some (.fz (.tup xs)) from fun _ => rfl, his2, -List.map_map]
  have hnpath : ∀ r : List Nat, nef (.tup (plD r)) (.tup (plD r)) = some (.bl false) := fun r => nef_self (α := Tp Nat) ⟨r⟩ (fun _ _ => trivial)
  have hthl : (thL p.2).length = p.2.th.length := by simp [thL]
  have hr1 : rng1 [.int ((thL p.2).length : Int)] = some (rngD 0 p.2.th.length) := by rw [hthl]; exact rng1_nat _ (by have := hfine.n1; omega)
  simp -implicitDefEqProofs only [rdz_s, rdz_z, upO_ok, b_ok, lenf_lst, l_some, m_ok, er_fz, hr1, rngD]
  have hrun := run_rng (N := p.2.th.length) (k := p.2.th.length) (c := 0) (by omega)
  rw [Nat.zero_add, ← List.range_eq_range'] at hrun
  refine seq_forR (P := fun o => fin [] 1 o = FO.ok (.fz (.bl true)) [none]) (fun c e => ∃ u12, e = [eD (.scr ns), eT (drT ns k), eD (toldD z), eD (.lst (ms.map Mv.d)), eD (coD z ms p.2), eD (.lst (thL p.2)), eD (.lst (caL p.2)), none, none, none, none, none, u12, none, none, none, none, none, none, none, none, none, none, none, none]) hrun ?_ ⟨none, rfl⟩ ?_
  · rintro c i c' e ⟨rfl, hi, rfl⟩ ⟨u12, rfl⟩
    obtain ⟨q, hq1, hq2⟩ := path_ex (runz_less run) (i + 1) i (by omega) hi
    have hp1 := e_path_of (z := z) (ms := ms) hq1 (by have := hfine.n1; omega) hi
    have hp2 := e_law_path hq1 hq2 hi (by have := hfine.n1; omega)
    refine ⟨[eD (.scr ns), eT (drT ns k), eD (toldD z), eD (.lst (ms.map Mv.d)), eD (coD z ms p.2), eD (.lst (thL p.2)), eD (.lst (caL p.2)), none, none, none, none, none, eI (0 + (i : Int)), none, none, none, none, none, none, none, none, none, none, none, none], [eD (.scr ns), eT (drT ns k), eD (toldD z), eD (.lst (ms.map Mv.d)), eD (coD z ms p.2), eD (.lst (thL p.2)), eD (.lst (caL p.2)), none, none, none, none, none, eI (i : Int), none, none, none, none, none, none, none, none, none, none, none, none], rfl, ?_, ⟨_, rfl⟩⟩
    rw [Int.zero_add]
    have hne := va_ne p.2.th[i] (hsh _ (List.getElem_mem hi))
    have ht := tru_or p.2.th[i].o
    cases ho : p.2.th[i].o with
    | none =>
      have hv : vaD p.2.th[i] = .ins 2 [("shape", p.2.th[i].sh.d), ("giver", .int (p.2.th[i].g : Int)), ("origin", .tup [])] := by simp [vaD, ho, orT]
      rw [ho] at ht
      rw [hv] at hne
      simp -implicitDefEqProofs [hp1, hp2, hnpath, co_held, th_ix p.2 i hi, ix_th hi, th_ix0, th_ix1, th_ix2, ho, ht, callC_eq, aft_value, er_value, hv, hne]
    | some o =>
      have hv : vaD p.2.th[i] = .ins 2 [("shape", p.2.th[i].sh.d), ("giver", .int (p.2.th[i].g : Int)), ("origin", orD (some o))] := by simp [vaD, ho, orT, orD]
      rw [ho] at ht
      rw [hv] at hne
      simp -implicitDefEqProofs [hp1, hp2, hnpath, co_held, th_ix p.2 i hi, ix_th hi, th_ix0, th_ix1, th_ix2, ho, ht, callC_eq, aft_value, er_value, hv, hne]
  rintro e ⟨u12, rfl⟩
  refine seq_step (P := fun o => fin [] 1 o = FO.ok (.fz (.bl true)) [none]) [eD (.scr ns), eT (drT ns k), eD (toldD z), eD (.lst (ms.map Mv.d)), eD (coD z ms p.2), eD (.lst (thL p.2)), eD (.lst (caL p.2)), none, none, none, none, none, u12, eD (.lst wordsD), eD (.lst (shapesD z)), none, none, none, none, none, none, none, none, none, none] ?_ ?_
  · rw [small_le (by simp)]
    simp -implicitDefEqProofs [e_shapes z (by omega), shapesD_add z hz, -List.map_map, wordsD]
  rw [show rng1 [D.int 8] = some (rngD 0 8) from rfl]
  simp -implicitDefEqProofs only [l_some, b_ok, rngD]
  refine seq_for (P := fun o => fin [] 1 o = FO.ok (.fz (.bl true)) [none]) (fun e => ∃ k u11 u15 u16 u17 u18 u19 u20 u21, e = [eD (.scr ns), eT (drT ns k), eD (toldD z), eD (.lst (ms.map Mv.d)), eD (coD z ms p.2), eD (.lst (thL p.2)), eD (.lst (caL p.2)), none, none, none, none, u11, u12, eD (.lst wordsD), eD (.lst (shapesD z)), u15, u16, u17, u18, u19, u20, u21, none, none, none]) ?_ ⟨k, none, none, none, none, none, none, none, none, rfl⟩ ?_
  · rintro d hd e ⟨k, u11, u15, u16, u17, u18, u19, u20, u21, rfl⟩
    obtain ⟨i, hi, rfl⟩ := List.mem_map.mp hd
    rw [Int.zero_add]
    obtain ⟨x1, ⟨w1, hw1, rfl⟩, q1⟩ := pick_io2 ns hL k wordsD (by decide) _ wordsD_ok
    obtain ⟨n1, hn1, q2⟩ := take_io ns hL (k + 1) 5 (by decide)
    obtain ⟨x3, ⟨a1, ha1, rfl⟩, q3⟩ := pick_io2 ns hL (k + 1 + 1) (shapesD z) (shapesD_pos z) _ (shapesD_ok z)
    obtain ⟨x4, ⟨w2, hw2, rfl⟩, q4⟩ := pick_io2 ns hL (k + 1 + 1 + 1) wordsD (by decide) _ wordsD_ok
    obtain ⟨n2, hn2, q5⟩ := take_io ns hL (k + 1 + 1 + 1 + 1) 5 (by decide)
    obtain ⟨x6, ⟨w3, hw3, rfl⟩, q6⟩ := pick_io2 ns hL (k + 1 + 1 + 1 + 1 + 1) wordsD (by decide) _ wordsD_ok
    obtain ⟨x7, ⟨a3, ha3, rfl⟩, q7⟩ := pick_io2 ns hL (k + 1 + 1 + 1 + 1 + 1 + 1) (shapesD z) (shapesD_pos z) _ (shapesD_ok z)
    obtain ⟨x8, ⟨c, hcf, rfl⟩, q8⟩ := pick_io2 ns hL (k + 1 + 1 + 1 + 1 + 1 + 1 + 1) _ (by simp) _ (cand_ok w1 w2 w3 hw1 hw2 hw3 n1 n2 a1 a3 ha1 ha3)
    have p1 := q1 (fun env => (rdz 13 env).bind fun x e => Out.ok [x] e) (eD (.scr ns)) (drT ns k) [eD (toldD z), eD (.lst (ms.map Mv.d)), eD (coD z ms p.2), eD (.lst (thL p.2)), eD (.lst (caL p.2)), none, none, none, none, u11, u12, eD (.lst wordsD), eD (.lst (shapesD z)), eI (i : Int), u16, u17, u18, u19, u20, u21, none, none, none] [eD (toldD z), eD (.lst (ms.map Mv.d)), eD (coD z ms p.2), eD (.lst (thL p.2)), eD (.lst (caL p.2)), none, none, none, none, u11, u12, eD (.lst wordsD), eD (.lst (shapesD z)), eI (i : Int), u16, u17, u18, u19, u20, u21, none, none, none] (by simp -implicitDefEqProofs [])
    have p2 := q2 (fun env => Out.ok [D.int 5] env) (eD (.scr ns)) (drT ns (k + 1)) [eD (toldD z), eD (.lst (ms.map Mv.d)), eD (coD z ms p.2), eD (.lst (thL p.2)), eD (.lst (caL p.2)), none, none, none, none, u11, u12, eD (.lst wordsD), eD (.lst (shapesD z)), eI (i : Int), u16, u17, u18, u19, u20, u21, none, none, none] [eD (toldD z), eD (.lst (ms.map Mv.d)), eD (coD z ms p.2), eD (.lst (thL p.2)), eD (.lst (caL p.2)), none, none, none, none, u11, u12, eD (.lst wordsD), eD (.lst (shapesD z)), eI (i : Int), u16, u17, u18, u19, u20, u21, none, none, none] rfl
    have p3 := q3 (fun env => (rdz 14 env).bind fun x e => Out.ok [x] e) (eD (.scr ns)) (drT ns (k + 1 + 1)) [eD (toldD z), eD (.lst (ms.map Mv.d)), eD (coD z ms p.2), eD (.lst (thL p.2)), eD (.lst (caL p.2)), none, none, none, none, u11, u12, eD (.lst wordsD), eD (.lst (shapesD z)), eI (i : Int), u16, u17, u18, u19, u20, u21, none, none, none] [eD (toldD z), eD (.lst (ms.map Mv.d)), eD (coD z ms p.2), eD (.lst (thL p.2)), eD (.lst (caL p.2)), none, none, none, none, u11, u12, eD (.lst wordsD), eD (.lst (shapesD z)), eI (i : Int), u16, u17, u18, u19, u20, u21, none, none, none] (by simp -implicitDefEqProofs [])
    have p4 := q4 (fun env => (rdz 13 env).bind fun x e => Out.ok [x] e) (eD (.scr ns)) (drT ns (k + 1 + 1 + 1)) [eD (toldD z), eD (.lst (ms.map Mv.d)), eD (coD z ms p.2), eD (.lst (thL p.2)), eD (.lst (caL p.2)), none, none, none, none, u11, u12, eD (.lst wordsD), eD (.lst (shapesD z)), eI (i : Int), u16, u17, u18, u19, u20, u21, none, none, none] [eD (toldD z), eD (.lst (ms.map Mv.d)), eD (coD z ms p.2), eD (.lst (thL p.2)), eD (.lst (caL p.2)), none, none, none, none, u11, u12, eD (.lst wordsD), eD (.lst (shapesD z)), eI (i : Int), u16, u17, u18, u19, u20, u21, none, none, none] (by simp -implicitDefEqProofs [])
    have p5 := q5 (fun env => Out.ok [D.int 5] env) (eD (.scr ns)) (drT ns (k + 1 + 1 + 1 + 1)) [eD (toldD z), eD (.lst (ms.map Mv.d)), eD (coD z ms p.2), eD (.lst (thL p.2)), eD (.lst (caL p.2)), none, none, none, none, u11, u12, eD (.lst wordsD), eD (.lst (shapesD z)), eI (i : Int), u16, u17, u18, u19, u20, u21, none, none, none] [eD (toldD z), eD (.lst (ms.map Mv.d)), eD (coD z ms p.2), eD (.lst (thL p.2)), eD (.lst (caL p.2)), none, none, none, none, u11, u12, eD (.lst wordsD), eD (.lst (shapesD z)), eI (i : Int), u16, u17, u18, u19, u20, u21, none, none, none] rfl
    obtain ⟨sp, hsp, q9⟩ := take_io ns hL (k + 1 + 1 + 1 + 1 + 1 + 1 + 1 + 1) ((ms.length : Int) + 1) (by omega)
    have hsp2 : sp ≤ ms.length := by omega
    obtain ⟨cs, hcs⟩ : ∃ cs : List Cd, cs = (ms.take sp).map Mv.cd ++ c :: (ms.drop sp).map Mv.cd := ⟨_, rfl⟩
    have hcl : cs.length ≤ 90 := by rw [hcs]; simp; omega
    have hcf2 : ∀ y ∈ cs, Enc.fit y := by
      intro y hy
      rw [hcs] at hy
      rcases List.mem_append.mp hy with h | h
      · obtain ⟨m, hm, rfl⟩ := List.mem_map.mp h
        exact hfit m (List.mem_of_mem_take hm)
      · rcases List.mem_cons.mp h with rfl | h
        · exact hcf
        · obtain ⟨m, hm, rfl⟩ := List.mem_map.mp h
          exact hfit m (List.mem_of_mem_drop hm)
    obtain ⟨bad, b, hb1, hb2, hb3, hb4, hb5⟩ := cand_end hz cs hcl hcf2 (fun y hy => fit_w (hcf2 y hy))
    have u21' : ∃ v21 : Option Ent, v21 = if b = true then u21 else none := ⟨_, rfl⟩
    obtain ⟨v21, hv21⟩ := u21'
    refine ⟨[eD (.scr ns), eT (drT ns k), eD (toldD z), eD (.lst (ms.map Mv.d)), eD (coD z ms p.2), eD (.lst (thL p.2)), eD (.lst (caL p.2)), none, none, none, none, u11, u12, eD (.lst wordsD), eD (.lst (shapesD z)), eI (i : Int), u16, u17, u18, u19, u20, u21, none, none, none], [eD (.scr ns), eT (drT ns (k + 1 + 1 + 1 + 1 + 1 + 1 + 1 + 1 + 1)), eD (toldD z), eD (.lst (ms.map Mv.d)), eD (coD z ms p.2), eD (.lst (thL p.2)), eD (.lst (caL p.2)), none, none, none, none, eD (Enc.d c), u12, eD (.lst wordsD), eD (.lst (shapesD z)), eI (i : Int), eD (.lst [.tup [.str w1, .int (n1 : Int), a1.d], .tup [.str w2, .int (n2 : Int)]]), eD (.bl (canC z p.2 c)), eI (sp : Int), eD (.lst (cs.map Enc.d)), eD bad, v21, none, none, none], rfl, ?_, ⟨_, _, _, _, _, _, _, _, _, rfl⟩⟩
    refine seq_step (P := fun o => o = Out.ok Fl.nx [eD (.scr ns), eT (drT ns (k + 1 + 1 + 1 + 1 + 1 + 1 + 1 + 1 + 1)), eD (toldD z), eD (.lst (ms.map Mv.d)), eD (coD z ms p.2), eD (.lst (thL p.2)), eD (.lst (caL p.2)), none, none, none, none, eD (Enc.d c), u12, eD (.lst wordsD), eD (.lst (shapesD z)), eI (i : Int), eD (.lst [.tup [.str w1, .int (n1 : Int), a1.d], .tup [.str w2, .int (n2 : Int)]]), eD (.bl (canC z p.2 c)), eI (sp : Int), eD (.lst (cs.map Enc.d)), eD bad, v21, none, none, none]) [eD (.scr ns), eT (drT ns (k + 1 + 1 + 1 + 1 + 1)), eD (toldD z), eD (.lst (ms.map Mv.d)), eD (coD z ms p.2), eD (.lst (thL p.2)), eD (.lst (caL p.2)), none, none, none, none, u11, u12, eD (.lst wordsD), eD (.lst (shapesD z)), eI (i : Int), eD (.lst [.tup [.str w1, .int (n1 : Int), a1.d], .tup [.str w2, .int (n2 : Int)]]), u17, u18, u19, u20, u21, none, none, none] ?_ ?_
    · rw [p1]
      simp -implicitDefEqProofs only [m_ok, b_ok, er_fz]
      rw [p2]
      simp -implicitDefEqProofs only [m_ok, b_ok, er_fz]
      rw [p3]
      simp -implicitDefEqProofs only [m_ok, b_ok, er_fz]
      simp -implicitDefEqProofs only [small3, if_true, b_ok]
      rw [p4]
      simp -implicitDefEqProofs only [m_ok, b_ok, er_fz]
      rw [p5]
      simp -implicitDefEqProofs []
    refine seq_step (P := fun o => o = Out.ok Fl.nx [eD (.scr ns), eT (drT ns (k + 1 + 1 + 1 + 1 + 1 + 1 + 1 + 1 + 1)), eD (toldD z), eD (.lst (ms.map Mv.d)), eD (coD z ms p.2), eD (.lst (thL p.2)), eD (.lst (caL p.2)), none, none, none, none, eD (Enc.d c), u12, eD (.lst wordsD), eD (.lst (shapesD z)), eI (i : Int), eD (.lst [.tup [.str w1, .int (n1 : Int), a1.d], .tup [.str w2, .int (n2 : Int)]]), eD (.bl (canC z p.2 c)), eI (sp : Int), eD (.lst (cs.map Enc.d)), eD bad, v21, none, none, none]) [eD (.scr ns), eT (drT ns (k + 1 + 1 + 1 + 1 + 1 + 1 + 1 + 1)), eD (toldD z), eD (.lst (ms.map Mv.d)), eD (coD z ms p.2), eD (.lst (thL p.2)), eD (.lst (caL p.2)), none, none, none, none, eD (Enc.d c), u12, eD (.lst wordsD), eD (.lst (shapesD z)), eI (i : Int), eD (.lst [.tup [.str w1, .int (n1 : Int), a1.d], .tup [.str w2, .int (n2 : Int)]]), u17, u18, u19, u20, u21, none, none, none] ?_ ?_
    · have p6 := q6 (fun env => (rdz 13 env).bind fun x e => Out.ok [x] e) (eD (.scr ns)) (drT ns (k + 1 + 1 + 1 + 1 + 1)) [eD (toldD z), eD (.lst (ms.map Mv.d)), eD (coD z ms p.2), eD (.lst (thL p.2)), eD (.lst (caL p.2)), none, none, none, none, u11, u12, eD (.lst wordsD), eD (.lst (shapesD z)), eI (i : Int), eD (.lst [.tup [.str w1, .int (n1 : Int), a1.d], .tup [.str w2, .int (n2 : Int)]]), u17, u18, u19, u20, u21, none, none, none] [eD (toldD z), eD (.lst (ms.map Mv.d)), eD (coD z ms p.2), eD (.lst (thL p.2)), eD (.lst (caL p.2)), none, none, none, none, u11, u12, eD (.lst wordsD), eD (.lst (shapesD z)), eI (i : Int), eD (.lst [.tup [.str w1, .int (n1 : Int), a1.d], .tup [.str w2, .int (n2 : Int)]]), u17, u18, u19, u20, u21, none, none, none] (by simp -implicitDefEqProofs [])
      have p7 := q7 (fun env => (rdz 14 env).bind fun x e => Out.ok [x] e) (eD (.scr ns)) (drT ns (k + 1 + 1 + 1 + 1 + 1 + 1)) [eD (toldD z), eD (.lst (ms.map Mv.d)), eD (coD z ms p.2), eD (.lst (thL p.2)), eD (.lst (caL p.2)), none, none, none, none, u11, u12, eD (.lst wordsD), eD (.lst (shapesD z)), eI (i : Int), eD (.lst [.tup [.str w1, .int (n1 : Int), a1.d], .tup [.str w2, .int (n2 : Int)]]), u17, u18, u19, u20, u21, none, none, none] [eD (toldD z), eD (.lst (ms.map Mv.d)), eD (coD z ms p.2), eD (.lst (thL p.2)), eD (.lst (caL p.2)), none, none, none, none, u11, u12, eD (.lst wordsD), eD (.lst (shapesD z)), eI (i : Int), eD (.lst [.tup [.str w1, .int (n1 : Int), a1.d], .tup [.str w2, .int (n2 : Int)]]), u17, u18, u19, u20, u21, none, none, none] (by simp -implicitDefEqProofs [])
      rw [q8 _ _ _ _ [eD (toldD z), eD (.lst (ms.map Mv.d)), eD (coD z ms p.2), eD (.lst (thL p.2)), eD (.lst (caL p.2)), none, none, none, none, u11, u12, eD (.lst wordsD), eD (.lst (shapesD z)), eI (i : Int), eD (.lst [.tup [.str w1, .int (n1 : Int), a1.d], .tup [.str w2, .int (n2 : Int)]]), u17, u18, u19, u20, u21, none, none, none] ?_]
      · simp -implicitDefEqProofs []
      · simp -implicitDefEqProofs only [rdz_s, rdz_z, upO_ok, b_ok]
        rw [p6]
        simp -implicitDefEqProofs only [m_ok, b_ok, er_fz]
        rw [p7]
        simp -implicitDefEqProofs only [m_ok, b_ok, er_fz]
        simp -implicitDefEqProofs []
    refine seq_step (P := fun o => o = Out.ok Fl.nx [eD (.scr ns), eT (drT ns (k + 1 + 1 + 1 + 1 + 1 + 1 + 1 + 1 + 1)), eD (toldD z), eD (.lst (ms.map Mv.d)), eD (coD z ms p.2), eD (.lst (thL p.2)), eD (.lst (caL p.2)), none, none, none, none, eD (Enc.d c), u12, eD (.lst wordsD), eD (.lst (shapesD z)), eI (i : Int), eD (.lst [.tup [.str w1, .int (n1 : Int), a1.d], .tup [.str w2, .int (n2 : Int)]]), eD (.bl (canC z p.2 c)), eI (sp : Int), eD (.lst (cs.map Enc.d)), eD bad, v21, none, none, none]) [eD (.scr ns), eT (drT ns (k + 1 + 1 + 1 + 1 + 1 + 1 + 1 + 1)), eD (toldD z), eD (.lst (ms.map Mv.d)), eD (coD z ms p.2), eD (.lst (thL p.2)), eD (.lst (caL p.2)), none, none, none, none, eD (Enc.d c), u12, eD (.lst wordsD), eD (.lst (shapesD z)), eI (i : Int), eD (.lst [.tup [.str w1, .int (n1 : Int), a1.d], .tup [.str w2, .int (n2 : Int)]]), eD (.bl (canC z p.2 c)), u18, u19, u20, u21, none, none, none] ?_ ?_
    · have hin := (ninf_could run c hcf (fit_could run)).2
      cases c with
      | none => simp -implicitDefEqProofs [show (Enc.d (none : Cd) : D) = .non from rfl, show isNN .non .non = some (.bl false) from rfl, show canC z p.2 none = false from rfl]
      | some tp => simp -implicitDefEqProofs [show isNN (Enc.d (some tp : Cd)) .non = some (.bl true) from rfl, hlaw, hin]
    refine seq_step (P := fun o => o = Out.ok Fl.nx [eD (.scr ns), eT (drT ns (k + 1 + 1 + 1 + 1 + 1 + 1 + 1 + 1 + 1)), eD (toldD z), eD (.lst (ms.map Mv.d)), eD (coD z ms p.2), eD (.lst (thL p.2)), eD (.lst (caL p.2)), none, none, none, none, eD (Enc.d c), u12, eD (.lst wordsD), eD (.lst (shapesD z)), eI (i : Int), eD (.lst [.tup [.str w1, .int (n1 : Int), a1.d], .tup [.str w2, .int (n2 : Int)]]), eD (.bl (canC z p.2 c)), eI (sp : Int), eD (.lst (cs.map Enc.d)), eD bad, v21, none, none, none]) [eD (.scr ns), eT (drT ns (k + 1 + 1 + 1 + 1 + 1 + 1 + 1 + 1)), eD (toldD z), eD (.lst (ms.map Mv.d)), eD (coD z ms p.2), eD (.lst (thL p.2)), eD (.lst (caL p.2)), none, none, none, none, eD (Enc.d c), u12, eD (.lst wordsD), eD (.lst (shapesD z)), eI (i : Int), eD (.lst [.tup [.str w1, .int (n1 : Int), a1.d], .tup [.str w2, .int (n2 : Int)]]), eD (.bl (canC z p.2 c)), u18, u19, u20, u21, none, none, none] ?_ ?_
    · have hcan := e_can true z ms p.2 c (fit_w hcf) hsh
      rw [cdK_true, coD_eq] at hcan
      have hbb := nef_self (α := Bool) (canC z p.2 c) trivial
      rw [show (Enc.d (canC z p.2 c) : D) = .bl (canC z p.2 c) from rfl] at hbb
      simp -implicitDefEqProofs [coD_eq, pick_can, hcan, hbb]
    refine seq_step (P := fun o => o = Out.ok Fl.nx [eD (.scr ns), eT (drT ns (k + 1 + 1 + 1 + 1 + 1 + 1 + 1 + 1 + 1)), eD (toldD z), eD (.lst (ms.map Mv.d)), eD (coD z ms p.2), eD (.lst (thL p.2)), eD (.lst (caL p.2)), none, none, none, none, eD (Enc.d c), u12, eD (.lst wordsD), eD (.lst (shapesD z)), eI (i : Int), eD (.lst [.tup [.str w1, .int (n1 : Int), a1.d], .tup [.str w2, .int (n2 : Int)]]), eD (.bl (canC z p.2 c)), eI (sp : Int), eD (.lst (cs.map Enc.d)), eD bad, v21, none, none, none]) [eD (.scr ns), eT (drT ns (k + 1 + 1 + 1 + 1 + 1 + 1 + 1 + 1 + 1)), eD (toldD z), eD (.lst (ms.map Mv.d)), eD (coD z ms p.2), eD (.lst (thL p.2)), eD (.lst (caL p.2)), none, none, none, none, eD (Enc.d c), u12, eD (.lst wordsD), eD (.lst (shapesD z)), eI (i : Int), eD (.lst [.tup [.str w1, .int (n1 : Int), a1.d], .tup [.str w2, .int (n2 : Int)]]), eD (.bl (canC z p.2 c)), eI (sp : Int), u19, u20, u21, none, none, none] ?_ ?_
    · rw [q9 _ _ _ _ [eD (toldD z), eD (.lst (ms.map Mv.d)), eD (coD z ms p.2), eD (.lst (thL p.2)), eD (.lst (caL p.2)), none, none, none, none, eD (Enc.d c), u12, eD (.lst wordsD), eD (.lst (shapesD z)), eI (i : Int), eD (.lst [.tup [.str w1, .int (n1 : Int), a1.d], .tup [.str w2, .int (n2 : Int)]]), eD (.bl (canC z p.2 c)), u18, u19, u20, u21, none, none, none] ?_]
      · simp -implicitDefEqProofs []
      · simp -implicitDefEqProofs []
    refine seq_step (P := fun o => o = Out.ok Fl.nx [eD (.scr ns), eT (drT ns (k + 1 + 1 + 1 + 1 + 1 + 1 + 1 + 1 + 1)), eD (toldD z), eD (.lst (ms.map Mv.d)), eD (coD z ms p.2), eD (.lst (thL p.2)), eD (.lst (caL p.2)), none, none, none, none, eD (Enc.d c), u12, eD (.lst wordsD), eD (.lst (shapesD z)), eI (i : Int), eD (.lst [.tup [.str w1, .int (n1 : Int), a1.d], .tup [.str w2, .int (n2 : Int)]]), eD (.bl (canC z p.2 c)), eI (sp : Int), eD (.lst (cs.map Enc.d)), eD bad, v21, none, none, none]) [eD (.scr ns), eT (drT ns (k + 1 + 1 + 1 + 1 + 1 + 1 + 1 + 1 + 1)), eD (toldD z), eD (.lst (ms.map Mv.d)), eD (coD z ms p.2), eD (.lst (thL p.2)), eD (.lst (caL p.2)), none, none, none, none, eD (Enc.d c), u12, eD (.lst wordsD), eD (.lst (shapesD z)), eI (i : Int), eD (.lst [.tup [.str w1, .int (n1 : Int), a1.d], .tup [.str w2, .int (n2 : Int)]]), eD (.bl (canC z p.2 c)), eI (sp : Int), eD (.lst (cs.map Enc.d)), u20, u21, none, none, none] ?_ ?_
    · have k1 : cutA (ms.map Mv.d) none (some (sp : Int)) = (ms.take sp).map Mv.d := by rw [cut_hi _ _ (by rw [List.length_map]; exact hsp2), List.map_take]
      have k2 : cutA (ms.map Mv.d) (some (sp : Int)) none = (ms.drop sp).map Mv.d := by rw [cut_lo _ _ (by rw [List.length_map]; exact hsp2), List.map_drop]
      have k3 : addf (.lst ((ms.take sp).map Mv.d)) (.lst [Enc.d c]) = some (.lst ((ms.take sp).map Mv.d ++ [Enc.d c])) := addf_lst _ _ (by simp; omega)
      have k4 : addf (.lst ((ms.take sp).map Mv.d ++ [Enc.d c])) (.lst ((ms.drop sp).map Mv.d)) = some (.lst (cs.map Enc.d)) := by
        rw [addf_lst _ _ (by simp; omega), hcs, cds_d, cds_d]
        simp
      simp -implicitDefEqProofs [k1, k2, k3, k4, -List.map_take, -List.map_drop]
    refine seq_step (P := fun o => o = Out.ok Fl.nx [eD (.scr ns), eT (drT ns (k + 1 + 1 + 1 + 1 + 1 + 1 + 1 + 1 + 1)), eD (toldD z), eD (.lst (ms.map Mv.d)), eD (coD z ms p.2), eD (.lst (thL p.2)), eD (.lst (caL p.2)), none, none, none, none, eD (Enc.d c), u12, eD (.lst wordsD), eD (.lst (shapesD z)), eI (i : Int), eD (.lst [.tup [.str w1, .int (n1 : Int), a1.d], .tup [.str w2, .int (n2 : Int)]]), eD (.bl (canC z p.2 c)), eI (sp : Int), eD (.lst (cs.map Enc.d)), eD bad, v21, none, none, none]) [eD (.scr ns), eT (drT ns (k + 1 + 1 + 1 + 1 + 1 + 1 + 1 + 1 + 1)), eD (toldD z), eD (.lst (ms.map Mv.d)), eD (coD z ms p.2), eD (.lst (thL p.2)), eD (.lst (caL p.2)), none, none, none, none, eD (Enc.d c), u12, eD (.lst wordsD), eD (.lst (shapesD z)), eI (i : Int), eD (.lst [.tup [.str w1, .int (n1 : Int), a1.d], .tup [.str w2, .int (n2 : Int)]]), eD (.bl (canC z p.2 c)), eI (sp : Int), eD (.lst (cs.map Enc.d)), eD bad, u21, none, none, none] ?_ ?_
    · simp -implicitDefEqProofs [hb3]
    refine seq_step (P := fun o => o = Out.ok Fl.nx [eD (.scr ns), eT (drT ns (k + 1 + 1 + 1 + 1 + 1 + 1 + 1 + 1 + 1)), eD (toldD z), eD (.lst (ms.map Mv.d)), eD (coD z ms p.2), eD (.lst (thL p.2)), eD (.lst (caL p.2)), none, none, none, none, eD (Enc.d c), u12, eD (.lst wordsD), eD (.lst (shapesD z)), eI (i : Int), eD (.lst [.tup [.str w1, .int (n1 : Int), a1.d], .tup [.str w2, .int (n2 : Int)]]), eD (.bl (canC z p.2 c)), eI (sp : Int), eD (.lst (cs.map Enc.d)), eD bad, v21, none, none, none]) [eD (.scr ns), eT (drT ns (k + 1 + 1 + 1 + 1 + 1 + 1 + 1 + 1 + 1)), eD (toldD z), eD (.lst (ms.map Mv.d)), eD (coD z ms p.2), eD (.lst (thL p.2)), eD (.lst (caL p.2)), none, none, none, none, eD (Enc.d c), u12, eD (.lst wordsD), eD (.lst (shapesD z)), eI (i : Int), eD (.lst [.tup [.str w1, .int (n1 : Int), a1.d], .tup [.str w2, .int (n2 : Int)]]), eD (.bl (canC z p.2 c)), eI (sp : Int), eD (.lst (cs.map Enc.d)), eD bad, u21, none, none, none] ?_ ?_
    · have hbb := nef_self (α := Bool) b trivial
      rw [show (Enc.d b : D) = .bl b from rfl] at hbb
      simp -implicitDefEqProofs [dg_size, hb4, hb1, hbb]
    subst hv21
    rcases hb5 with ⟨rfl, r, hr5⟩ | ⟨rfl, n, rfl, hr5⟩
    · simp -implicitDefEqProofs [tryAs, dg_size, hr5, hb2]
    · simp -implicitDefEqProofs [tryAs, dg_size, hr5, hb2, isB1, unslot, int_ne]
  rintro e ⟨k, u11, u15, u16, u17, u18, u19, u20, u21, rfl⟩
  rw [show iterD (D.tup [D.tup [D.int 0, D.non], D.tup [D.int 1, D.str (Str.ofString "zz")]]) = some [D.tup [D.int 0, D.non], D.tup [D.int 1, D.str (Str.ofString "zz")]] from rfl]
  have hno1 := e_is_course_bad (z : Int) .non _ (e_made_none (z : Int) .non rfl)
  have hno2 := e_is_course_bad (z : Int) (.str (Str.ofString "zz")) _ (e_made_none (z : Int) _ rfl)
  refine seq_step (P := fun o => fin [] 1 o = FO.ok (.fz (.bl true)) [none]) [eD (.scr ns), eT (drT ns k), eD (toldD z), eD (.lst (ms.map Mv.d)), eD (coD z ms p.2), eD (.lst (thL p.2)), eD (.lst (caL p.2)), none, none, none, none, u11, eI 1, eD (.lst wordsD), eD (.lst (shapesD z)), u15, u16, u17, u18, u19, u20, u21, eD (.str (Str.ofString "zz")), none, none] ?_ ?_
  · simp -implicitDefEqProofs [dg_size, hno1, hno2]
  refine seq_step (P := fun o => fin [] 1 o = FO.ok (.fz (.bl true)) [none]) [eD (.scr ns), eT (drT ns k), eD (toldD z), eD (.lst (ms.map Mv.d)), eD (coD z ms p.2), eD (.lst (thL p.2)), eD (.lst (caL p.2)), none, none, none, none, u11, eI 1, eD (.lst wordsD), eD (.lst (shapesD z)), u15, u16, u17, u18, u19, u20, u21, eD (.str (Str.ofString "zz")), eT (coG z [] [] []), none] ?_ ?_
  · simp -implicitDefEqProofs [dg_size, callC_eq, aft_course]
  have hz0 : 0 < z := by omega
  have hpc0 := e_pcould0 hz
  have hlc0 := e_could0 z (by omega)
  have hnc0 : nef (.lst ((couldL (shL z) ⟨[], []⟩).map Mv.d)) (.lst ((couldL (shL z) ⟨[], []⟩).map Mv.d)) = some (.bl false) := nef_moves (z := z) (p := p) (fit_could (p := (0, ⟨[], []⟩)) .nil)
  have hpk : ∀ a b c, pick ms_could (Str.ofString "could") (.fz (coGD (z : Int) a b c)) = some (semOf 1 8 [] D_Course_could.1) := fun a b c => by
    have h : pick ms_could (Str.ofString "could") (.fz (coGD (z : Int) a b c)) = ms_could 3 := by rfl
    rw [h]
    rfl
  have hA := mkA z
  have hB := mkB z hz0
  have hC := mkC z
  have hE := mkE z
  rw [coT_eq] at hA
  rw [coT_eq, coT_eq] at hB hC hE
  simp only [List.map_cons, List.map_nil] at hA hB hC hE
  refine seq_step (P := fun o => fin [] 1 o = FO.ok (.fz (.bl true)) [none]) [eD (.scr ns), eT (drT ns k), eD (toldD z), eD (.lst (ms.map Mv.d)), eD (coD z ms p.2), eD (.lst (thL p.2)), eD (.lst (caL p.2)), none, none, none, none, u11, eI 1, eD (.lst wordsD), eD (.lst (shapesD z)), u15, u16, u17, u18, u19, u20, u21, eD (.str (Str.ofString "zz")), eT (coT z [mA, mB, mC, mE] sC), none] ?_ ?_
  · simp -implicitDefEqProofs [pkT_eq, hpk, hpc0, hlc0, hnc0, pick_make, hA, hB, hC, hE, int_ne, coT_eq]
  have hN := canN z [mA, mB, mC, mE]
  have hY := canY z hz0 [mA, mB, mC, mE]
  have hpc : ∀ a b c, pick ms_can (Str.ofString "can") (.fz (coGD (z : Int) a b c)) = some (semOf 2 1 [] D_Course_can.1) := fun a b c => pick_can _ _ _ _
  rw [coD_eq] at hN hY
  simp only [List.map_cons, List.map_nil] at hN hY
  refine seq_step (P := fun o => fin [] 1 o = FO.ok (.fz (.bl true)) [none]) [eD (.scr ns), eT (drT ns k), eD (toldD z), eD (.lst (ms.map Mv.d)), eD (coD z ms p.2), eD (.lst (thL p.2)), eD (.lst (caL p.2)), none, none, none, none, u11, eI 1, eD (.lst wordsD), eD (.lst (shapesD z)), u15, u16, u17, u18, u19, u20, u21, eD (.str (Str.ofString "zz")), eT (coT z [mA, mB, mC, mE] sC), none] ?_ ?_
  · have hg : vaL sC = [vaD tA, vaD tB, vaD tC] := rfl
    have g1 := va_giver tA
    have g2 := va_giver tB
    have g3 := va_giver tC
    rw [coT_eq]
    have hne : nef (.lst [.int 0, .int 1, .int 0]) (.lst [.int 0, .int 1, .int 0]) = some (.bl false) := by rfl
    have s0 : 0 < sizeLine := by decide
    have s1 : 1 < sizeLine := by decide
    have s2 : 2 < sizeLine := by decide
    have q0 : (tA.g : Int) = 0 := rfl
    have q1 : (tB.g : Int) = 1 := rfl
    have q2 : (tC.g : Int) = 0 := rfl
    rw [hg] at hN hY
    simp -implicitDefEqProofs [pkT_eq, hpc, hN, hY, cg_held, compG, hg, compD, wipeE, restE, oldE, g1, g2, g3, s0, s1, s2, q0, q1, q2, hne]
  have hlb : ∀ a b c, iterD (D.tup [a, b, c]) = some [a, b, c] := fun _ _ _ => rfl
  have hp1 := e_made_none 1 .non rfl
  have hp2 := e_path_bad (z := z) (ms := ms) (s := p.2) (p.2.th.length : Int) (.inr (Int.le_refl _))
  have hp3 := e_path_bad (z := z) (ms := ms) (s := p.2) (-1) (.inl (by decide))
  refine seq_step (P := fun o => fin [] 1 o = FO.ok (.fz (.bl true)) [none]) [eD (.scr ns), eT (drT ns k), eD (toldD z), eD (.lst (ms.map Mv.d)), eD (coD z ms p.2), eD (.lst (thL p.2)), eD (.lst (caL p.2)), none, none, none, none, u11, eI 1, eD (.lst wordsD), eD (.lst (shapesD z)), u15, u16, u17, u18, u19, u20, none, eD (.str (Str.ofString "zz")), eT (coT z [mA, mB, mC, mE] sC), eD (.lam 2 cl)] ?_ ?_
  · simp -implicitDefEqProofs [hlb, tryAs, actG, hp1, hp2, hp3, isB1, unslot, hthl, show isNN .non .non = some (.bl false) from rfl, List.lookup_cons, show negf (.int 1) = some (.int (-1)) from rfl]
  simp -implicitDefEqProofs []
end K02

end
theorem PySem.Challenge.cw_promisewraps_k02_whole_courses_holds : PySem.Challenge.rw_promisewraps_k02_whole_courses.Holds := by
  exact PySem.Challenge.end_promisewraps_k02_whole_courses K02.law_holds
